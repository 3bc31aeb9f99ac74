import PyProof.Rows.All
import Wide.All
import OpenK.AllK
import Wide.FinOn
import HandS.ForMost
import HandS.IsInst
import HandS.TupAny
import HandS.Walk
import HandS.DictComp
import HandS.TupSets
import HandS.DictTup
import HandS.Keys
import PySem.Challenge.RW_neverleapt_k28_whole_nets_by_all_rings
import KE.GoesEnum
import KE.GoesMore
import HandS.Conv
set_option Elab.async false
set_option linter.all false
set_option maxRecDepth 100000
set_option maxHeartbeats 8000000
/-! The text by places, the callee's bundle, the small defs. -/
namespace Nv
open PySem L2
def top (i : Nat) : Stmt := PySem.Challenge.pw_neverleapt_k28_whole_nets_by_all_rings.main.body.getD i (.Pass ⟨0, 0, 0, 0⟩)
/-- a def of the program's top -/
def DefOf (K : PySem.W.Frag) (mg : Str → Option Value) (x : Str) (st : Stmt) (ps : List Str) : Prop :=
  ∃ (f : Addr) (fd : FuncData), mg x = some (.ref f) ∧ Fun K x x st f fd ∧ Binds K fd ps []
/-- a def that keeps its promise, by its name -/
def Cal (P : Program) (w : World) (K : PySem.W.Frag) (mg : Str → Option Value) (base : Heap) (k : Nat) (x : Str) (ps : List Str) (sp : Sp) : Prop :=
  ∃ (f : Addr) (fd : FuncData), mg x = some (.ref f) ∧ FnOk P w K mg base CX0 k f fd ps sp ∧ PySem.W.keepIn K (.ref f) = true ∧ Binds K fd ps []
section
variable {X : Cx} {k : Nat} {x : Str} {ps : List Str} {sp : Sp} {p pos : Pos} {e : Expr} {es : List Expr} {t : TA}
theorem pcal (c : Cal X.prog X.w X.K X.mg X.base k x ps sp) {j : Nat} (hr : Room j X.A) (ha : PA X (e :: es) t) (hj : k ≤ j := by decide) (hg : Gl X x := by rfl) (hdb : (x == ("__debug__" : Str)) = false := by decide)
    (he : starEach (e :: es) X.env = (false, eval e X.env) :: starEach es X.env := by rfl) (hpl : (backTo pos (starEach es X.env)).any (·.1) = false := by rfl) : PE X (.Call (.Name x p) (e :: es) [] pos) (tCall sp [] E0 t) :=
  match c with
  | ⟨_, _, hm, F, hk, hb⟩ => pe_call F (hr.mono hj) hg hm hk hb .nil pass0 ha hdb he hpl
end
theorem DefOf.cal {P : Program} {w : World} {K : PySem.W.Frag} {mg : Str → Option Value} {base : Heap} {x : Str} {st : Stmt} {ps : List Str} {k : Nat} {sp : Sp} (D : DefOf K mg x st ps)
    (h : ∀ f fd, Fun K x x st f fd → FnOk P w K mg base CX0 k f fd ps sp) : Cal P w K mg base k x ps sp :=
  match D with
  | ⟨f, fd, hm, F, hb⟩ => ⟨f, fd, hm, h f fd F, F.kp, hb⟩
/-- what the top leaves of the built-ins' names and of the constants -/
structure Txt (mg : Str → Option Value) : Prop where
  len : mg "len" = none
  range : mg "range" = none
  sorted : mg "sorted" = none
  tuple : mg "tuple" = none
  isi : mg "isinstance" = none
  int : mg "int" = none
  bool : mg "bool" = none
  abs : mg "abs" = none
  sum : mg "sum" = none
  all : mg "all" = none
  enumerate : mg "enumerate" = none
  ms : ∃ t, mg "MOST_STANDINGS" = some (.int 12 t)
  me : ∃ t, mg "MOST_EVENTS" = some (.int 30 t)
  mt : ∃ t, mg "MOST_TRIES" = some (.int 40 t)
  mp : ∃ t, mg "MOST_POINTS" = some (.int 400 t)

theorem same_upd {H0 H : Hp} {l : Addr} {o : HO} (s : Same H0 H) (n : H0 l = none) : Same H0 (upd H l o) := fun b u e => by
  rw [upd_ne (ne_of_none e n)]
  exact s b u e
theorem same_new {H0 H : Hp} {l : Addr} {o : HO} (s : Same H0 H) (n : H l = none) : Same H0 (upd H l o) := same_upd s (s.free n)

abbrev sIsInteger : Stmt := top 5
abbrev sIsWithin : Stmt := top 6
abbrev sCommon : Stmt := top 7
abbrev sIsEvent : Stmt := top 13
abbrev sStepAt : Stmt := top 15

def spIsInteger : Sp := fun vs H Q _ => ∃ i : Int, vs = [.int i] ∧ Q (.bl true) H
def spIsWithin : Sp := fun vs H Q _ => ∃ i lo hi : Int, vs = [.int i, .int lo, .int hi] ∧ lo ≤ i ∧ i ≤ hi ∧ Q (.bl true) H
def spCommon : Sp := fun vs H Q _ => ∃ i j : Int, vs = [.int i, .int j] ∧ Q (.int (Int.gcd i j : Nat)) H

section
variable {P : Program} {w : World} {K : PySem.W.Frag} {mg : Str → Option Value} {base : Heap}
theorem scIsInteger : FnScope ["thing"] ["thing"] (defScope sIsInteger) := ⟨rfl, rfl, rfl, by decide +kernel, rfl, by decide +kernel, by decide +kernel⟩
theorem c_is_integer (T : Txt mg) (D : DefOf K mg "is_integer" sIsInteger ["thing"]) : Cal P w K mg base 1 "is_integer" ["thing"] spIsInteger := by
  refine D.cal fun f fd F => F.ok scIsInteger (fun vs H Q E h => ?_) (fun cdv A outer s H vs Q E hr h => ?_)
  · obtain ⟨i, rfl, _⟩ := h
    rfl
  · obtain ⟨i, rfl, k⟩ := h
    refine ⟨_, pss_one (ps_ret (pe_and (pe_callB call_isi (by rfl) T.isi (by decide +kernel) (pa_cons (pv 0) (pa_cons (pe_bltn (v := .ty "int") (by rfl) T.int (by decide +kernel) rfl) pa_nil)))
      (pe_one (pe_not (pe_callB call_isi (by rfl) T.isi (by decide +kernel) (pa_cons (pv 0) (pa_cons (pe_bltn (v := .ty "bool") (by rfl) T.bool (by decide +kernel) rfl) pa_nil))))))), ?_⟩
    refine ⟨_, rfl, _, _, _, _, true, rfl, .ty "int", .base (.int i), kit_ty (by decide +kernel), true, rfl, iteT ?_⟩
    exact ⟨_, rfl, _, _, _, _, false, rfl, .ty "bool", .base (.int i), kit_ty (by decide +kernel), false, rfl, k⟩
theorem scIsWithin : FnScope ["thing", "least", "most"] ["thing", "least", "most"] (defScope sIsWithin) := ⟨rfl, rfl, rfl, by decide +kernel, rfl, by decide +kernel, by decide +kernel⟩
theorem c_is_within (T : Txt mg) (c1 : Cal P w K mg base 1 "is_integer" ["thing"] spIsInteger) (D : DefOf K mg "is_within" sIsWithin ["thing", "least", "most"]) : Cal P w K mg base 2 "is_within" ["thing", "least", "most"] spIsWithin := by
  refine D.cal fun f fd F => F.ok scIsWithin (fun vs H Q E h => ?_) (fun cdv A outer s H vs Q E hr h => ?_)
  · obtain ⟨i, lo, hi, rfl, _⟩ := h
    rfl
  · obtain ⟨i, lo, hi, rfl, h1, h2, k⟩ := h
    refine ⟨_, pss_one (ps_ret (pe_and (pcal c1 hr (pa_cons (pv 0) pa_nil)) (pe_one (pe_chain op_le op_le (pv 1) (pv 0) (pv 2))))), ?_⟩
    refine ⟨_, rfl, i, rfl, true, rfl, iteT ?_⟩
    refine ⟨_, rfl, _, rfl, _, _, rfl, rfl, true, congrArg V.bl (decide_eq_true h1), iteT ⟨_, rfl, _, _, rfl, rfl, ?_⟩⟩
    show Q (.bl (decide (i ≤ hi))) H
    rw [decide_eq_true h2]
    exact k
theorem scCommon : FnScope ["one", "other"] ["one", "other"] (defScope sCommon) := ⟨rfl, rfl, rfl, by decide +kernel, rfl, by decide +kernel, by decide +kernel⟩
theorem abs_nn (i : Int) : 0 ≤ (if i < 0 then -i else i) := by split <;> omega
theorem abs_gcd (i j : Int) : Int.gcd (if i < 0 then -i else i) (if j < 0 then -j else j) = Int.gcd i j := by
  have h : ∀ i : Int, (if i < 0 then -i else i) = (i.natAbs : Int) := fun i => by split <;> omega
  rw [h, h]
  unfold Int.gcd
  rw [Int.natAbs_natCast, Int.natAbs_natCast]
theorem gcd_step {a b : Int} : Int.gcd b (a % b) = Int.gcd a b := by
  rw [Int.emod_def, Int.gcd_sub_mul_left_right, Int.gcd_comm]
theorem gcd_zero {a : Int} (h : 0 ≤ a) : ((Int.gcd a 0 : Nat) : Int) = a := by
  rw [Int.gcd_zero_right]
  omega
theorem c_common (T : Txt mg) (D : DefOf K mg "common_divisor" sCommon ["one", "other"]) : Cal P w K mg base 1 "common_divisor" ["one", "other"] spCommon := by
  refine D.cal fun f fd F => F.ok scCommon (fun vs H Q E h => ?_) (fun cdv A outer s H vs Q E hr h => ?_)
  · obtain ⟨i, j, rfl, _⟩ := h
    rfl
  · obtain ⟨i, j, rfl, k⟩ := h
    refine ⟨_, pss_cons (ps_set (i := 0) scCommon.nd rfl (Or.inl rfl) (pe_callB call_abs (by rfl) T.abs (by decide +kernel) (pa_cons (pv 0) pa_nil)))
      (pss_cons (ps_set (i := 1) scCommon.nd rfl (Or.inl rfl) (pe_callB call_abs (by rfl) T.abs (by decide +kernel) (pa_cons (pv 1) pa_nil)))
      (pss_cons (ps_while PassesOwn.never (pt_cmpR op_gt (pv 1) pe_int (nomark _))
        (pss_one (ps_par (i := 0) (j := 1) (by rfl) scCommon.nd rfl rfl (by decide) rfl rfl (pa_cons (pv 1) (pa_cons (pe_op op_mod (pv 0) (pv 1)) pa_nil)) (by rfl))))
      (pss_one (ps_ret (pv 0))))), ?_⟩
    refine ⟨_, rfl, _, rfl, _, rfl, _, rfl, ?_⟩
    refine ⟨fun m σ H' => ∃ a b : Int, σ = [some (.int a), some (.int b)] ∧ H' = H ∧ 0 ≤ a ∧ 0 ≤ b ∧ Int.gcd a b = Int.gcd i j ∧ m = b.toNat, ⟨_, _, _, rfl, rfl, abs_nn i, abs_nn j, abs_gcd i j, rfl⟩, ?_⟩
    rintro m σ H' ⟨a, b, rfl, rfl, ha, hb, hg, rfl⟩
    refine ⟨_, rfl, _, _, rfl, rfl, _, rfl, ite2 (fun h => ?_) (fun h => ?_)⟩
    · have hb' : 0 < b := of_decide_eq_true h
      refine ⟨_, fun σ' H' z => z, ?_⟩
      refine ⟨_, rfl, _, rfl, _, rfl, _, _, rfl, rfl, hb', _, _, rfl, ?_⟩
      have h1 := Int.emod_nonneg a (Int.ne_of_gt hb')
      have h2 := Int.emod_lt_of_pos a hb'
      exact ⟨_, (by omega), b, a % b, rfl, rfl, hb, h1, gcd_step.trans hg, rfl⟩
    · have hb' : ¬ 0 < b := fun z => h (decide_eq_true z)
      have : b = 0 := by omega
      subst this
      refine ⟨_, rfl, ?_⟩
      rw [← hg, gcd_zero ha] at k
      exact k
theorem scStepAt : FnScope ["machine", "event"] ["machine", "event"] (defScope sStepAt) := ⟨rfl, rfl, rfl, by decide +kernel, rfl, by decide +kernel, by decide +kernel⟩
end
end Nv

/-! enumerate of a tuple; how a walk drives a comprehension's turns. -/
namespace Nv
open PySem L2
open PySem.Spec PyProof.Rows
/-! ### enumerate(t), t a tuple -/
/-- what enumerate makes over the iterator at i -/
abbrev freshEnum (i : Addr) : Obj := { cls := .type "enumerate", data := .fields #[.none, .bool false, .ref i, rawInt 0, .none, .none] }
theorem enum_new {v : Value} {o : Obj} {G : Heap → Prop} (B : Begins v o G) :
    Meets (Builtin.«enumerate.__new__» ⟨[.type "enumerate", v], []⟩) fun _ R s => G s.heap ∧ R (.ok (.ret (.ref (s.heap.push o).objs.size))) { s with heap := (s.heap.push o).push (freshEnum s.heap.objs.size) } := by
  refine .of_wp ?_
  rintro P w A R ⟨hp, g, d, tk, os⟩ ⟨hG, hR⟩
  have hsub := sub_enumerate
  have begun : ∀ {A' : Around} {E Q : Value → Shared → Prop}, Q (.ref hp.objs.size) ⟨hp.push o, g, d, tk, os⟩ → wpAny (model P w) A' (pyIter v) Q E ⟨hp, g, d, tk, os⟩ := fun {A' E Q} q => B.iter P w A' E ⟨hp, g, d, tk, os⟩ Q hG q
  wp_walk using begun
  refine wpAny_stack_any fun _ => wpAny_pure (?_ : _)
  split
  case h_1 =>
    rename_i c _ _ _ _ _
    cases hc : c == Value.type "enumerate" <;> wp_walk using begun <;> exact ⟨_, rfl, hR⟩
  all_goals (wp_walk using begun; exact ⟨_, rfl, hR⟩)
section
variable {P : Program} {w : World} {K : PySem.W.Frag}
theorem enum_made {A : Around} {s : Shared} {v : Value} {o : Obj} {G : Heap → Prop} {Q E : Value → Shared → Prop} (B : Begins v o G) (hG : G s.heap)
    (h : ∀ h', IsEnum h' (s.heap.objs.size + 1) s.heap.objs.size 0 .none → h'.get? s.heap.objs.size = some o → (∀ b u, s.heap.get? b = some u → h'.get? b = some u) → Q (.ref (s.heap.objs.size + 1)) { s with heap := h' }) :
    wpAny (model P w) A (call (.type "enumerate") [v]) Q E s := by
  have sz : (s.heap.push o).objs.size = s.heap.objs.size + 1 := Heap.size_push ..
  have cell : IsEnum ((s.heap.push o).push (freshEnum s.heap.objs.size)) (s.heap.objs.size + 1) s.heap.objs.size 0 .none := by
    exact sz ▸ Heap.get?_push_size (s.heap.push o) rfl
  refine callType_new F.called_enumerate (by decide) (F.typeCall_enumerate_1 _) (F.newCall_enumerate_1 _) (fun ob => F.args_object_init_2 ob _) F.entry_enumerate_new (enum_new B) ⟨hG, (?_ : _ ∧ _)⟩
  rw [sz]
  exact ⟨⟨_, cell, rfl⟩, h _ cell (Heap.get?_push_of_some _ (Heap.get?_push_size s.heap B.free)) fun b u e => Heap.get?_push_of_some _ (Heap.get?_push_of_some o e)⟩
/-- the tuple at a, gone through, each thing with its number in a new pair -/
def IteT (a : Addr) : It where
  go i H := ∃ (xs : List V) (x : V), H a = some (.tup xs) ∧ xs[i]? = some x
  yld i H v H' := ∃ T x, v = .ref T ∧ H T = none ∧ H' = upd H T (.tup [.int (i : Nat), x]) ∧ ∀ xs, H a = some (.tup xs) → xs[i]? = some x
  stop i H := ∃ xs : List V, H a = some (.tup xs) ∧ xs.length = i
/-- the enumerate at e and its iterator at it, i things gone through -/
structure Stands (a e it : Addr) (i : Nat) (h : Heap) : Prop where
  en : ∃ old, IsEnum h e it ((i : Nat) : Int) old
  ti : h.IsTupleIter it a i
  ne : e ≠ it
theorem turn_enumT {elts : List Expr} {kk : Nat} {tpos : Pos} (a e it : Addr) : Turn P w K (.Tuple elts kk tpos) (IteT a) [e, it] e (Stands a e it) := by
  have two : ∀ {b : Addr}, b ∈ [e, it] → b = e ∨ b = it := fun hb => by simpa using hb
  refine { mem := List.mem_cons_self .., obj := ?_, keep := fun i h h' st k => ⟨st.en.imp fun old z => k e (by simp) _ z, st.ti.at fun o z => k it (by simp) o z, st.ne⟩, item := ?_, done := ?_, self := fun A i s Q E st hq => st.en.elim fun _ en => wpAny_pyIter_enum en hq }
  · rintro i h ⟨⟨old, en⟩, ⟨o, ho, _, hd⟩, _⟩ b hb
    rcases two hb with rfl | rfl
    · exact ⟨_, en, fun v q => by cases q⟩
    · exact ⟨o, ho, fun v q => nomatch hd.symm.trans q⟩
  · rintro X rfl rfl rfl hc i pins s σ H E I free ⟨⟨old, en⟩, ti, ne⟩ ⟨xs, x, hx, hxi⟩
    obtain ⟨_, us, rel, tup⟩ := (show ObjOk X.prog X.w H s.heap a (.tup xs) from I.hok a _ hx)
    obtain ⟨u, at_u, ru⟩ := rel.get hxi
    have szE : e < s.heap.objs.size := Heap.lt_size en
    have szI : it < s.heap.objs.size := ti.elim fun _ z => Heap.lt_size z.1
    have away : ∀ b ∈ [e, it], b ≠ a := fun b hb z => nomatch (z ▸ (free b hb).1).symm.trans hx
    have iu : i < us.toArray.size := by simpa using (List.getElem?_eq_some_iff.mp at_u).1
    refine wpAny_pyNext_enum_itemD (Draws.tuple (A := X.A.in1) (I.ok.hd hc) it a (away it (by simp)).symm us.toArray) en ⟨ti, tup⟩ iu ne (by simp [ne, away e (by simp)]) ?_
    rintro y h1 tk hy out ⟨ti1, _⟩ pair _ same1
    have zy : us[i]? = some y := by simpa using hy
    cases at_u.symm.trans zy
    refine ⟨_, rfl, wpAny_letOwnedTupleGo_enum (s := { s with heap := h1, toks := tk + 1 }) out fun h2 en2 same2 => ?_⟩
    have pair2 := (same2.2 _ (Nat.ne_of_gt szE)).trans pair
    have I2 : Inv X pins σ (upd H s.heap.objs.size (.tup [.int (i : Nat), x])) { s with heap := h2, toks := tk + 1 } := by
      refine I.turnedNew (ch := [e, it]) (fun b o nb ho => ?_) free (Nat.le_refl _) ⟨by show 2 ≤ sizeLine; decide, [.int i tk, u], .cons ⟨_, rfl⟩ (.cons ru .nil), _, pair2, rfl, _, rfl⟩
      have n1 : b ≠ e := fun z => nb (by simp [z])
      exact (same2.2 b n1).trans (same1 b o n1 (fun z => nb (by simp [z])) ho)
    refine ⟨.ref s.heap.objs.size, _, I2, rfl, ⟨_, x, rfl, I.hok.fresh (Nat.le_refl _), rfl, fun ys hys => ?_⟩, ⟨⟨u, en2⟩, ti1.at fun o z => (same2.2 it ne.symm).trans z, ne⟩, fun b hb => ?_⟩
    · cases hx.symm.trans hys
      exact hxi
    · have lt : b < s.heap.objs.size := (two hb).elim (fun z => z ▸ szE) fun z => z ▸ szI
      exact (upd_ne (Nat.ne_of_lt lt)).trans (free b hb).1
  · rintro X rfl rfl rfl hc i pins s σ H E I free ⟨⟨old, en⟩, ti, ne⟩ ⟨xs, hx, rfl⟩
    obtain ⟨_, us, rel, tup⟩ := (show ObjOk X.prog X.w H s.heap a (.tup xs) from I.hok a _ hx)
    obtain ⟨n0, n1, _, n3, n4, n5⟩ := free it (by simp)
    have ia : a ≠ it := fun z => nomatch (z ▸ n0).symm.trans hx
    have len : xs.length = us.toArray.size := by rw [List.size_toArray, rel.length]
    exact wpAny_pyNext_enum_endD (Draws.tuple (A := X.A.in1) (I.ok.hd hc) it a ia us.toArray) en ⟨len ▸ ti, tup⟩ fun h' other => ⟨rfl, I.turned (t' := s.toks) (fun b o nb ho => other b o nb ho) n0 n1 n3 n4 n5⟩
end
def iEnumT (ta : TA) : TI := fun σ H R => ta σ H fun vs H1 => ∃ a xs, vs = [.ref a] ∧ H1 a = some (.tup xs) ∧ R (IteT a) H1
theorem pi_enumT {X : Cx} {e : Expr} {ta : TA} {p pos tpos : Pos} {elts : List Expr} {kk : Nat} (hg : Gl X "enumerate") (hm : X.mg "enumerate" = none) (ha : PA X [e] ta) (hs : starEach [e] X.env = [(false, eval e X.env)] := by rfl) :
    PI X (.Tuple elts kk tpos) (.Call (.Name "enumerate" p) [e] [] pos) (iEnumT ta) := by
  refine ⟨fun pins s σ H R I h => Call_ (ld_blt I hg hm boot_enumerate (PyProof.Rows.callWith_type1 (thn (ha.run pos pins s σ H _ I h) ?_) hs rfl))⟩
  rintro us s1 ⟨vs, H1, I1, rel, a, xs, rfl, hx, hR⟩
  obtain ⟨u, rfl, ru⟩ := vals1 rel
  cases ru
  obtain ⟨_, its, _, tup⟩ := (show ObjOk X.prog X.w H1 s1.heap a (.tup xs) from I1.hok a _ hx)
  refine enum_made (begins_tuple a its.toArray) tup fun h' en ti more => wpAny_pyIter_enum en ?_
  refine ⟨s1.heap.objs.size + 1, [s1.heap.objs.size + 1, s1.heap.objs.size], _, _, H1, rfl, I1.kept (t' := s1.toks) more, turn_enumT a _ _, ⟨⟨_, en⟩, ⟨_, ti, rfl, rfl⟩, Nat.succ_ne_self _⟩, fun b hb => ?_, hR⟩
  have high : s1.heap.objs.size ≤ b := (by simpa using hb : b = s1.heap.objs.size + 1 ∨ b = s1.heap.objs.size).elim (fun z => z ▸ Nat.le_succ _) fun z => z ▸ Nat.le_refl _
  exact I1.fpOk high (I1.hok.fresh high)
theorem walk_enumT {a : Addr} {xs : List V} : Walk (IteT a) xs.length (fun H => H a = some (.tup xs)) (YPair (fun i => some (.int (i : Nat))) (fun i => xs[i]?)) := by
  refine ⟨fun i H hi h => ⟨xs, xs[i], h, by simp [hi]⟩, fun H h => ⟨xs, h, rfl⟩, ?_⟩
  rintro i H x H' hi h ⟨T, z, e1, e2, e3, e4⟩
  exact ⟨T, _, z, e1, e2, e3, rfl, e4 xs h⟩
/-! ### a walk of any kind drives what its turns do: St is the turn's reading, by what is wanted behind it -/
theorem drive {J : It} {n : Nat} {G : Hp → Prop} {Y : Nat → Hp → V → Hp → Prop} (w : Walk J n G Y) {St : (Hp → Prop) → V → Hp → Prop} {H0 : Hp} {Qd : Hp → Prop} (Pv : Nat → Hp → Prop) (h0 : Pv 0 H0) (hG : ∀ i H, i ≤ n → Pv i H → G H)
    (hs : ∀ i x H H', i < n → Pv i H → Y i H x H' → St (Pv (i + 1)) x H') (hd : ∀ H, Pv n H → Qd H) :
    ∃ W : Nat → Nat → Hp → Prop, (∃ m, W 0 m H0) ∧ ∀ i m H, W i m H →
      (J.stop i H ∧ Qd H) ∨ (J.go i H ∧ ∃ Nx : Hp → Prop, (∀ H', Nx H' → ∃ m', m' < m ∧ W (i + 1) m' H') ∧ ∀ x H', J.yld i H x H' → St Nx x H') := by
  refine ⟨fun i m H => i + m = n ∧ Pv i H, ⟨n, Nat.zero_add n, h0⟩, fun i m H ⟨e, p⟩ => ?_⟩
  have g := hG i H (by omega) p
  cases m with
  | zero =>
    obtain rfl : i = n := e
    exact .inl ⟨w.stops H g, hd H p⟩
  | succ m =>
    have hi : i < n := by omega
    exact .inr ⟨w.goes i H hi g, Pv (i + 1), fun H' p' => ⟨m, Nat.lt_succ_self m, by omega, p'⟩, fun x H' y => hs i x H H' hi p (w.yields i H x H' hi g y)⟩
end Nv

/-! Plain mathematics: events, ways, the span of rings and of differences. -/
namespace Nv
structure Ev where
  b : Int
  a : Int
  t : Int
  p : Int

/-- the numbers of the events of which q holds -/
def idx (q : Ev → Bool) (es : List Ev) : List Nat := (List.range es.length).filter fun i => match es[i]? with | some e => q e | none => false
theorem mem_idx {q : Ev → Bool} {es : List Ev} {i : Nat} : i ∈ idx q es ↔ ∃ e, es[i]? = some e ∧ q e = true := by
  unfold idx
  rw [List.mem_filter, List.mem_range]
  constructor
  · rintro ⟨h1, h2⟩
    cases e : es[i]? with
    | none => rw [e] at h2; nomatch h2
    | some x => rw [e] at h2; exact ⟨x, rfl, h2⟩
  · rintro ⟨e, h1, h2⟩
    refine ⟨?_, by rw [h1]; exact h2⟩
    exact (List.getElem?_eq_some_iff.mp h1).1
theorem take_ge {es : List Ev} {i j : Nat} (h : j < i) : (es.take i)[j]? = es[j]? := by
  rw [List.getElem?_take]
  rw [if_pos h]
theorem idx_succ {q : Ev → Bool} {es : List Ev} {i : Nat} {e : Ev} (h : es[i]? = some e) : idx q (es.take (i + 1)) = idx q (es.take i) ++ (if q e = true then [i] else []) := by
  have hi : i < es.length := (List.getElem?_eq_some_iff.mp h).1
  unfold idx
  have l1 : (es.take (i + 1)).length = i + 1 := by rw [List.length_take]; omega
  have l2 : (es.take i).length = i := by rw [List.length_take]; omega
  rw [l1, l2, List.range_succ, List.filter_append]
  congr 1
  · refine List.filter_congr fun j hj => ?_
    have hj' : j < i := List.mem_range.mp hj
    rw [take_ge hj', take_ge (by omega)]
  · rw [List.filter_cons, List.filter_nil, take_ge (by omega), h]
theorem idx_all {q : Ev → Bool} {es : List Ev} : idx q (es.take es.length) = idx q es := by rw [List.take_length]
theorem idx_nil {q : Ev → Bool} {es : List Ev} : idx q (es.take 0) = [] := by simp [idx]
theorem idx_len {q : Ev → Bool} {es : List Ev} : (idx q es).length ≤ es.length := by
  unfold idx
  exact Nat.le_trans (List.length_filter_le _ _) (by rw [List.length_range]; exact Nat.le_refl _)

/-! ### pigeons -/
def upto (n : Nat) : List Int := (List.range n).map Int.ofNat
theorem mem_upto {n : Nat} {x : Int} : x ∈ upto n ↔ 0 ≤ x ∧ x < n := by
  unfold upto
  rw [List.mem_map]
  constructor
  · rintro ⟨i, h, rfl⟩
    have := List.mem_range.mp h
    exact ⟨Int.natCast_nonneg i, by show (i : Int) < n; omega⟩
  · rintro ⟨h1, h2⟩
    exact ⟨x.toNat, List.mem_range.mpr (by omega), by show (x.toNat : Int) = x; omega⟩
theorem nodup_ints_len {l : List Int} {n : Int} (hn : l.Nodup) (h : ∀ x ∈ l, 0 ≤ x ∧ x < n) : l.length ≤ n.toNat := by
  have z := List.Nodup.length_le_of_subset hn (l₂ := upto n.toNat) fun x hx => mem_upto.mpr ⟨(h x hx).1, by have := h x hx; omega⟩
  have e : (upto n.toNat).length = n.toNat := by unfold upto; rw [List.length_map, List.length_range]
  omega

/-! ### ways -/
inductive Way (es : List Ev) : Int → List Nat → Int → Prop where
  | nil (u : Int) : Way es u [] u
  | cons {i : Nat} {e : Ev} {r : List Nat} {v : Int} (h : es[i]? = some e) (w : Way es e.a r v) : Way es e.b (i :: r) v
def Reach (es : List Ev) (u v : Int) : Prop := ∃ w, Way es u w v
section
variable {es : List Ev} {u v x : Int} {r r' : List Nat}
theorem Way.append (w : Way es u r v) (w' : Way es v r' x) : Way es u (r ++ r') x := by
  induction w with
  | nil u => exact w'
  | cons h w ih => exact .cons h (ih w')
theorem Way.one {i : Nat} {e : Ev} (h : es[i]? = some e) : Way es e.b [i] e.a := .cons h (.nil _)
theorem Way.nil_eq (w : Way es u [] v) : u = v := by cases w; rfl
theorem Way.uncons {i : Nat} (w : Way es u (i :: r) v) : ∃ e, es[i]? = some e ∧ e.b = u ∧ Way es e.a r v := by
  cases w with
  | cons h w => exact ⟨_, h, rfl, w⟩
theorem way_split : ∀ (r : List Nat) (u : Int), Way es u (r ++ r') v → ∃ x, Way es u r x ∧ Way es x r' v
  | [], u, w => ⟨u, .nil u, w⟩
  | i :: r, u, w => by
    obtain ⟨e, h, e2, w2⟩ := Way.uncons (show Way es u (i :: (r ++ r')) v from w)
    subst e2
    obtain ⟨x, h1, h2⟩ := way_split r _ w2
    exact ⟨x, .cons h h1, h2⟩
theorem Reach.refl (u : Int) : Reach es u u := ⟨[], .nil u⟩
theorem Reach.trans (h : Reach es u v) (h' : Reach es v x) : Reach es u x := let ⟨_, a⟩ := h; let ⟨_, b⟩ := h'; ⟨_, a.append b⟩
theorem Reach.one {i : Nat} {e : Ev} (h : es[i]? = some e) : Reach es e.b e.a := ⟨_, Way.one h⟩
theorem Reach.step {i : Nat} {e : Ev} (h : Reach es u e.b) (g : es[i]? = some e) : Reach es u e.a := h.trans (Reach.one g)
/-- a lot that holds u and goes on by all events holds all that is reached -/
theorem Reach.closed {S : Int → Prop} (h : Reach es u v) (hu : S u) (hs : ∀ (i : Nat) e, es[i]? = some e → S e.b → S e.a) : S v := by
  obtain ⟨w, h⟩ := h
  induction h with
  | nil u => exact hu
  | cons g _ ih => exact ih (hs _ _ g hu)
end
/-- the standings in which the events of a row begin -/
def starts (es : List Ev) (r : List Nat) : List Int := r.map fun i => (es[i]?.map Ev.b).getD 0
def sT (es : List Ev) (r : List Nat) : Int := (r.map fun i => (es[i]?.map Ev.t).getD 0).sum
def sP (es : List Ev) (r : List Nat) : Int := (r.map fun i => (es[i]?.map Ev.p).getD 0).sum
section
variable {es : List Ev} {r r' : List Nat}
theorem sT_nil : sT es [] = 0 := rfl
theorem sP_nil : sP es [] = 0 := rfl
theorem sT_app : sT es (r ++ r') = sT es r + sT es r' := by unfold sT; rw [List.map_append, List.sum_append]
theorem sP_app : sP es (r ++ r') = sP es r + sP es r' := by unfold sP; rw [List.map_append, List.sum_append]
theorem sT_cons {i : Nat} {e : Ev} (h : es[i]? = some e) : sT es (i :: r) = e.t + sT es r := by unfold sT; rw [List.map_cons, List.sum_cons, h]; rfl
theorem sP_cons {i : Nat} {e : Ev} (h : es[i]? = some e) : sP es (i :: r) = e.p + sP es r := by unfold sP; rw [List.map_cons, List.sum_cons, h]; rfl
theorem starts_app : starts es (r ++ r') = starts es r ++ starts es r' := by unfold starts; rw [List.map_append]
theorem starts_cons {i : Nat} {e : Ev} (h : es[i]? = some e) : starts es (i :: r) = e.b :: starts es r := by unfold starts; rw [List.map_cons, h]; rfl
end

/-! ### spans -/
inductive Span (G : Int → Int → Prop) : Int → Int → Prop where
  | zero : Span G 0 0
  | gen {a b : Int} (h : G a b) : Span G a b
  | add {a b c d : Int} (h : Span G a b) (h' : Span G c d) : Span G (a + c) (b + d)
  | neg {a b : Int} (h : Span G a b) : Span G (-a) (-b)
section
variable {G G' : Int → Int → Prop} {a b c d : Int}
theorem Span.cast (h : Span G a b) (e : a = c) (f : b = d) : Span G c d := by subst e f; exact h
theorem Span.sub (h : Span G a b) (h' : Span G c d) : Span G (a - c) (b - d) := (h.add h'.neg).cast (by omega) (by omega)
theorem Span.natmul (h : Span G a b) : ∀ n : Nat, Span G ((n : Int) * a) ((n : Int) * b)
  | 0 => Span.zero.cast (by simp) (by simp)
  | n + 1 => ((h.natmul n).add h).cast (by grind) (by grind)
theorem Span.mul (h : Span G a b) (n : Int) : Span G (n * a) (n * b) := by
  rcases Int.le_total 0 n with z | z
  · have e : ((n.toNat : Nat) : Int) = n := by omega
    have := h.natmul n.toNat
    rw [e] at this
    exact this
  · have e : (((-n).toNat : Nat) : Int) = -n := by omega
    have := (h.natmul (-n).toNat).neg
    rw [e] at this
    exact this.cast (by grind) (by grind)
theorem Span.bind (h : Span G a b) (f : ∀ a b, G a b → Span G' a b) : Span G' a b := by
  induction h with
  | zero => exact .zero
  | gen h => exact f _ _ h
  | add _ _ ih1 ih2 => exact ih1.add ih2
  | neg _ ih => exact ih.neg
theorem Span.mono (h : Span G a b) (f : ∀ a b, G a b → G' a b) : Span G' a b := h.bind fun _ _ g => .gen (f _ _ g)
theorem Span.dvd {m : Int} (h : Span G a b) (f : ∀ a b, G a b → m ∣ a) : m ∣ a := by
  induction h with
  | zero => exact Int.dvd_zero m
  | gen h => exact f _ _ h
  | add _ _ ih1 ih2 => exact Int.dvd_add ih1 ih2
  | neg _ ih => exact Int.dvd_neg.mpr ih
/-- crosswise -/
theorem Span.cross1 {m : Int} (h : Span G a b) (f : ∀ a b, G a b → m ∣ a * d - b * c) : m ∣ a * d - b * c := by
  induction h with
  | zero => exact ⟨0, by grind⟩
  | gen h => exact f _ _ h
  | add _ _ ih1 ih2 =>
    have := Int.dvd_add ih1 ih2
    exact Int.dvd_trans this ⟨1, by grind⟩
  | neg _ ih =>
    have := Int.dvd_neg.mpr ih
    exact Int.dvd_trans this ⟨1, by grind⟩
theorem Span.cross {m : Int} (h : Span G a b) (h' : Span G c d) (f : ∀ a b c d, G a b → G c d → m ∣ a * d - b * c) : m ∣ a * d - b * c := by
  refine h.cross1 fun a b g => ?_
  have z : m ∣ c * b - d * a := h'.cross1 fun c d g' => f c d a b g' g
  exact Int.dvd_trans (Int.dvd_neg.mpr z) ⟨1, by grind⟩
end
/-- the whole multiples of (w, x) and (0, y) -/
def Lat (w x y a b : Int) : Prop := ∃ i j : Int, a = i * w ∧ b = i * x + j * y
section
variable {w x y a b c d : Int}
theorem Lat.zero : Lat w x y 0 0 := ⟨0, 0, by grind, by grind⟩
theorem Lat.add (h : Lat w x y a b) (h' : Lat w x y c d) : Lat w x y (a + c) (b + d) := by
  obtain ⟨i, j, rfl, rfl⟩ := h
  obtain ⟨k, l, rfl, rfl⟩ := h'
  exact ⟨i + k, j + l, by grind, by grind⟩
theorem Lat.neg (h : Lat w x y a b) : Lat w x y (-a) (-b) := by
  obtain ⟨i, j, rfl, rfl⟩ := h
  exact ⟨-i, -j, by grind, by grind⟩
theorem Span.lat {G : Int → Int → Prop} (h : Span G a b) (f : ∀ a b, G a b → Lat w x y a b) : Lat w x y a b := by
  induction h with
  | zero => exact .zero
  | gen h => exact f _ _ h
  | add _ _ ih1 ih2 => exact ih1.add ih2
  | neg _ ih => exact ih.neg
theorem Lat.one : Lat w x y w x := ⟨1, 0, by grind, by grind⟩
theorem Lat.two : Lat w x y 0 y := ⟨0, 1, by grind, by grind⟩
end

/-! ### rings: closed ways are sums of rings that come by no standing twice, begun at their least standing -/
section
variable {es : List Ev} {G : Int → Int → Prop}
/-- each ring that begins at its least standing, all its standings in S, is told -/
def AllRings (es : List Ev) (S : Int → Prop) (G : Int → Int → Prop) : Prop :=
  ∀ (u : Int) (r : List Nat), S u → r ≠ [] → Way es u r u → (starts es r).Nodup → (∀ x ∈ starts es r, u ≤ x) → G (sT es r) (sP es r)
theorem starts_len {r : List Nat} : (starts es r).length = r.length := by unfold starts; rw [List.length_map]
/-- a way that begins one event at x comes to x -/
theorem way_at {u v x : Int} {r1 r2 : List Nat} {i : Nat} (w : Way es u (r1 ++ i :: r2) v) (hx : (es[i]?.map Ev.b).getD 0 = x) : Way es u r1 x ∧ Way es x (i :: r2) v := by
  obtain ⟨y, h1, h2⟩ := way_split r1 u w
  obtain ⟨e, g, eb, _⟩ := h2.uncons
  rw [g] at hx
  have : y = x := by rw [← eb, ← hx]; rfl
  subst this
  exact ⟨h1, h2⟩
/-- a least one of a row -/
theorem least_of : ∀ (l : List Int), l ≠ [] → ∃ l1 x l2, l = l1 ++ x :: l2 ∧ ∀ y ∈ l, x ≤ y
  | [], h => absurd rfl h
  | [a], _ => ⟨[], a, [], rfl, fun y hy => by rw [List.mem_singleton.mp hy]; exact Int.le_refl _⟩
  | a :: b :: r, _ => by
    obtain ⟨l1, x, l2, e, h⟩ := least_of (b :: r) (by simp)
    by_cases hax : a ≤ x
    · refine ⟨[], a, b :: r, rfl, fun y hy => ?_⟩
      rcases List.mem_cons.1 hy with rfl | hy
      · exact Int.le_refl _
      · exact Int.le_trans hax (h y hy)
    · refine ⟨a :: l1, x, l2, by rw [e]; rfl, fun y hy => ?_⟩
      rcases List.mem_cons.1 hy with rfl | hy
      · omega
      · exact h y hy
/-- a row with a repeat -/
theorem dup_of : ∀ (l : List Int), ¬ l.Nodup → ∃ l1 x l2 l3, l = l1 ++ x :: l2 ++ x :: l3
  | [], h => absurd List.nodup_nil h
  | a :: r, h => by
    by_cases hm : a ∈ r
    · obtain ⟨s, t, e⟩ := List.append_of_mem hm
      exact ⟨[], a, s, t, by rw [e]; simp⟩
    · have : ¬ r.Nodup := fun z => h (List.nodup_cons.mpr ⟨hm, z⟩)
      obtain ⟨l1, x, l2, l3, e⟩ := dup_of r this
      exact ⟨a :: l1, x, l2, l3, by rw [e]; simp⟩
theorem map_split {α β : Type} {f : α → β} : ∀ {l : List α} {l1 : List β} {y : β} {l2 : List β}, l.map f = l1 ++ y :: l2 → ∃ r1 i r2, l = r1 ++ i :: r2 ∧ r1.map f = l1 ∧ f i = y ∧ r2.map f = l2
  | [], l1, y, l2, h => by simp at h
  | a :: l, [], y, l2, h => by
    rw [List.map_cons] at h
    have h' : f a :: l.map f = y :: l2 := h
    injection h' with h1 h2
    exact ⟨[], a, l, rfl, rfl, h1, h2⟩
  | a :: l, b :: l1, y, l2, h => by
    rw [List.map_cons] at h
    have h' : f a :: l.map f = b :: (l1 ++ y :: l2) := h
    injection h' with h1 h2
    obtain ⟨r1, i, r2, e, e1, e2, e3⟩ := map_split h2
    exact ⟨a :: r1, i, r2, by rw [e]; rfl, by rw [List.map_cons, h1, e1], e2, e3⟩
theorem closed_span {S : Int → Prop} (hS : ∀ u v, S u → Reach es u v → Reach es v u → S v) (hG : AllRings es S G) :
    ∀ (n : Nat) (u : Int) (r : List Nat), r.length ≤ n → S u → Way es u r u → Span G (sT es r) (sP es r)
  | 0, u, r, hl, _, _ => by
    have : r = [] := List.length_eq_zero_iff.mp (by omega)
    subst this
    exact Span.zero.cast rfl rfl
  | n + 1, u, r, hl, hu, w => by
    by_cases h0 : r = []
    · subst h0
      exact Span.zero.cast rfl rfl
    by_cases hd : (starts es r).Nodup
    · -- a ring: turned to its least standing
      obtain ⟨l1, x, l2, e, hle⟩ := least_of (starts es r) (fun z => h0 (List.length_eq_zero_iff.mp (by rw [← starts_len (es := es), z]; rfl)))
      obtain ⟨r1, i, r2, er, e1, e2, e3⟩ := map_split e
      rw [er] at w
      obtain ⟨w1, w2⟩ := way_at w e2
      have w3 : Way es x ((i :: r2) ++ r1) x := w2.append w1
      have hp : (starts es ((i :: r2) ++ r1)).Perm (starts es r) := by
        rw [er, starts_app, starts_app]
        exact List.perm_append_comm
      have hx : S x := hS u x hu ⟨_, w1⟩ ⟨_, w2⟩
      have g := hG x ((i :: r2) ++ r1) hx (by simp) w3 (hp.nodup_iff.mpr hd) fun y hy => hle y (hp.mem_iff.mp hy)
      refine (Span.gen g).cast ?_ ?_
      · rw [er, sT_app, sT_app]; omega
      · rw [er, sP_app, sP_app]; omega
    · obtain ⟨l1, x, l2, l3, e⟩ := dup_of _ hd
      have e' : starts es r = l1 ++ x :: (l2 ++ x :: l3) := by rw [e]; simp
      obtain ⟨r1, i, r2, er, e1, e2, e3⟩ := map_split e'
      obtain ⟨r3, j, r4, er2, e4, e5, e6⟩ := map_split e3
      rw [er] at w
      obtain ⟨w1, w2⟩ := way_at w e2
      have w2' : Way es x ((i :: r3) ++ j :: r4) u := by rw [er2] at w2; exact w2
      obtain ⟨w3, w4⟩ := way_at w2' e5
      have hx : S x := hS u x hu ⟨_, w1⟩ ⟨_, w2⟩
      have hlen : r.length = r1.length + 1 + r3.length + 1 + r4.length := by rw [er, er2]; simp; omega
      have s1 := closed_span hS hG n x (i :: r3) (by rw [List.length_cons]; omega) hx w3
      have s2 := closed_span hS hG n u (r1 ++ (j :: r4)) (by rw [List.length_append, List.length_cons]; omega) hu (w1.append w4)
      refine (s1.add s2).cast ?_ ?_
      · rw [er, er2, show r1 ++ i :: (r3 ++ j :: r4) = r1 ++ ((i :: r3) ++ (j :: r4)) by simp, sT_app, sT_app, sT_app]; omega
      · rw [er, er2, show r1 ++ i :: (r3 ++ j :: r4) = r1 ++ ((i :: r3) ++ (j :: r4)) by simp, sP_app, sP_app, sP_app]; omega
end

/-! ### differences by heights -/
/-- the pair of an event, from standing to standing of S -/
def Diff (es : List Ev) (S : Int → Prop) (hT hP : Int → Int) (a b : Int) : Prop :=
  ∃ (i : Nat) (e : Ev), es[i]? = some e ∧ S e.b ∧ S e.a ∧ a = hT e.b + e.t - hT e.a ∧ b = hP e.b + e.p - hP e.a
/-- hT, hP are what some way from the root gives -/
def Heights (es : List Ev) (S : Int → Prop) (root : Int) (hT hP : Int → Int) : Prop :=
  ∀ v, S v → ∃ r, Way es root r v ∧ sT es r = hT v ∧ sP es r = hP v
/-- S is a class: from each of it to each of it lead ways, and it holds what lies between -/
structure Class (es : List Ev) (S : Int → Prop) : Prop where
  join : ∀ u v, S u → S v → Reach es u v
  full : ∀ u v, S u → Reach es u v → Reach es v u → S v
section
variable {es : List Ev} {S : Int → Prop} {root : Int} {hT hP : Int → Int} {G : Int → Int → Prop}
theorem way_diff (C : Class es S) {u v : Int} {r : List Nat} (w : Way es u r v) (hu : S u) (hv : S v) : Span (Diff es S hT hP) (hT u + sT es r - hT v) (hP u + sP es r - hP v) := by
  induction w with
  | nil u => exact Span.zero.cast (by rw [sT_nil]; omega) (by rw [sP_nil]; omega)
  | @cons i e r v h w ih =>
    have ha : S e.a := C.full e.b e.a hu (Reach.one h) (Reach.trans ⟨_, w⟩ (C.join _ _ hv hu))
    refine ((Span.gen ⟨i, e, h, hu, ha, rfl, rfl⟩).add (ih ha hv)).cast ?_ ?_
    · rw [sT_cons h]; omega
    · rw [sP_cons h]; omega
/-- each ring is a sum of differences -/
theorem ring_diff (C : Class es S) {u : Int} {r : List Nat} (w : Way es u r u) (hu : S u) : Span (Diff es S hT hP) (sT es r) (sP es r) :=
  (way_diff (hT := hT) (hP := hP) C w hu hu).cast (by omega) (by omega)
/-- each difference is a sum of rings -/
theorem diff_ring (C : Class es S) (hr : S root) (hh : Heights es S root hT hP) (hG : AllRings es S G) {a b : Int} (d : Diff es S hT hP a b) : Span G a b := by
  obtain ⟨i, e, h, hb, ha, rfl, rfl⟩ := d
  obtain ⟨r1, w1, t1, p1⟩ := hh _ hb
  obtain ⟨r2, w2, t2, p2⟩ := hh _ ha
  obtain ⟨r3, w3⟩ := C.join _ _ ha hr
  have c1 : Way es root (r1 ++ (i :: r3)) root := w1.append (.cons h w3)
  have c2 : Way es root (r2 ++ r3) root := w2.append w3
  have s1 := closed_span C.full hG _ root _ (Nat.le_refl _) hr c1
  have s2 := closed_span C.full hG _ root _ (Nat.le_refl _) hr c2
  refine (s1.sub s2).cast ?_ ?_
  · rw [sT_app, sT_app, sT_cons h]; omega
  · rw [sP_app, sP_app, sP_cons h]; omega
end

/-! ### what net tells -/
/-- (w, x), (0, y) are a base of the net of the knot S, in the form that is told -/
structure NetOk (es : List Ev) (S : Int → Prop) (w x y : Int) : Prop where
  w0 : 0 ≤ w
  y0 : 0 ≤ y
  xy : 0 < y → 0 ≤ x ∧ x < y
  sp : ∃ (hT hP : Int → Int) (root : Int), S root ∧ Heights es S root hT hP ∧ Span (Diff es S hT hP) w x ∧ Span (Diff es S hT hP) 0 y ∧ ∀ a b, Diff es S hT hP a b → Lat w x y a b
/-- rs are rings of the knot S, all those among them that come by no standing twice and begin at their least one -/
structure RingsOk (es : List Ev) (S : Int → Prop) (rs : List (List Nat)) : Prop where
  sound : ∀ r ∈ rs, r ≠ [] ∧ ∃ u, S u ∧ Way es u r u
  all : AllRings es S fun a b => ∃ r ∈ rs, a = sT es r ∧ b = sP es r
section
variable {es : List Ev} {S : Int → Prop} {w x y : Int} {rs : List (List Nat)}
theorem net_in (C : Class es S) (N : NetOk es S w x y) (R : RingsOk es S rs) {r : List Nat} (h : r ∈ rs) : Lat w x y (sT es r) (sP es r) := by
  obtain ⟨hT, hP, root, _, _, _, _, l⟩ := N.sp
  obtain ⟨_, u, hu, wy⟩ := R.sound r h
  exact (ring_diff (hT := hT) (hP := hP) C wy hu).lat l
theorem net_span (C : Class es S) (N : NetOk es S w x y) (R : RingsOk es S rs) :
    Span (fun a b => ∃ r ∈ rs, a = sT es r ∧ b = sP es r) w x ∧ Span (fun a b => ∃ r ∈ rs, a = sT es r ∧ b = sP es r) 0 y := by
  obtain ⟨hT, hP, root, hr, hh, s1, s2, l⟩ := N.sp
  exact ⟨s1.bind fun a b d => diff_ring C hr hh R.all d, s2.bind fun a b d => diff_ring C hr hh R.all d⟩
theorem sT_nonneg (ht : ∀ e ∈ es, 1 ≤ e.t) : ∀ {r : List Nat} {u v : Int}, Way es u r v → (r.length : Int) ≤ sT es r := by
  intro r u v h
  induction h with
  | nil u => rw [sT_nil]; exact Int.le_refl _
  | @cons i e r v h w ih =>
    rw [sT_cons h, List.length_cons]
    have := ht e (List.mem_of_getElem? h)
    omega
theorem ring_pos (ht : ∀ e ∈ es, 1 ≤ e.t) (R : RingsOk es S rs) {r : List Nat} (h : r ∈ rs) : 1 ≤ sT es r := by
  obtain ⟨h0, u, _, wy⟩ := R.sound r h
  have h1 := sT_nonneg ht wy
  have h2 : 0 < r.length := List.length_pos_iff.mpr h0
  omega
theorem net_empty (C : Class es S) (N : NetOk es S w x y) (R : RingsOk es S rs) (ht : ∀ e ∈ es, 1 ≤ e.t) : w = 0 ↔ rs = [] := by
  constructor
  · intro hw
    cases rs with
    | nil => rfl
    | cons r rs =>
      obtain ⟨i, j, e, _⟩ := net_in C N R (List.mem_cons_self (a := r) (l := rs))
      have := ring_pos ht R (List.mem_cons_self (a := r) (l := rs))
      rw [hw] at e
      omega
  · rintro rfl
    have := (net_span C N R).1.dvd (m := 0) (fun a b ⟨r, hr, _⟩ => by cases hr)
    exact Int.zero_dvd.mp this
theorem dvd_eq {a b : Int} (ha : 0 ≤ a) (hb : 0 ≤ b) (h : a ∣ b) (h' : b ∣ a) : a = b := Int.dvd_antisymm ha hb h h'
theorem net_tries (C : Class es S) (N : NetOk es S w x y) (R : RingsOk es S rs) {g : Int} (g0 : 0 ≤ g) (hg : ∀ c, c ∣ g ↔ ∀ r ∈ rs, c ∣ sT es r) : w = g := by
  refine dvd_eq N.w0 g0 ((hg w).mpr fun r hr => ?_) ?_
  · obtain ⟨i, j, e, _⟩ := net_in C N R hr
    exact ⟨i, by rw [e]; exact Int.mul_comm _ _⟩
  · refine (net_span C N R).1.dvd fun a b ⟨r, hr, e, _⟩ => ?_
    rw [e]
    exact (hg g).mp (Int.dvd_refl g) r hr
theorem net_area (C : Class es S) (N : NetOk es S w x y) (R : RingsOk es S rs) {g : Int} (g0 : 0 ≤ g)
    (hg : ∀ c, c ∣ g ↔ ∀ r ∈ rs, ∀ r' ∈ rs, c ∣ sT es r * sP es r' - sP es r * sT es r') : w * y = g := by
  refine dvd_eq (Int.mul_nonneg N.w0 N.y0) g0 ((hg _).mpr fun r hr r' hr' => ?_) ?_
  · obtain ⟨i, j, e, f⟩ := net_in C N R hr
    obtain ⟨k, l, e', f'⟩ := net_in C N R hr'
    rw [e, f, e', f']
    exact ⟨i * l - j * k, by grind⟩
  · obtain ⟨s1, s2⟩ := net_span C N R
    have z := s1.cross (m := g) s2 fun a b c d ⟨r, hr, e, f⟩ ⟨r', hr', e', f'⟩ => by
      rw [e, f, e', f']
      exact (hg g).mp (Int.dvd_refl g) r hr r' hr'
    refine Int.dvd_trans z ⟨1, by grind⟩
end
theorem dvd_gcd_iff {c a b : Int} : c ∣ ((Int.gcd a b : Nat) : Int) ↔ c ∣ a ∧ c ∣ b :=
  ⟨fun h => ⟨Int.dvd_trans h (Int.gcd_dvd_left ..), Int.dvd_trans h (Int.gcd_dvd_right ..)⟩, fun h => Int.dvd_coe_gcd h.1 h.2⟩
/-- the class of a standing -/
def Knot (es : List Ev) (s v : Int) : Prop := Reach es s v ∧ Reach es v s
theorem knot_class {es : List Ev} {s : Int} : Class es (Knot es s) :=
  ⟨fun u v hu hv => hu.2.trans hv.1, fun u v hu h1 h2 => ⟨hu.1.trans h1, h2.trans hu.2⟩⟩
theorem Class.of_iff {es : List Ev} {S T : Int → Prop} (C : Class es S) (h : ∀ v, S v ↔ T v) : Class es T := by
  have : S = T := funext fun v => propext (h v)
  rw [← this]
  exact C
end Nv

/-! The data in the heap: events, parts, machines; is_event, step_at, Machine. -/
namespace Nv
open PySem L2
abbrev sInit : Stmt := inClass (top 14) 0
abbrev sKeep : Stmt := inClass (top 14) 1
/-! ### the data -/
def evV (e : Ev) : List V := [.int e.b, .int e.a, .int e.t, .int e.p]
/-- a tuple of events at l -/
def EvsAt (H : Hp) (l : Addr) (es : List Ev) : Prop :=
  ∃ as : List Addr, H l = some (.tup (as.map V.ref)) ∧ as.length = es.length ∧ ∀ (i : Nat) (e : Ev), es[i]? = some e → ∃ x, as[i]? = some x ∧ H x = some (.tup (evV e))
theorem EvsAt.same {H H' : Hp} {l : Addr} {es : List Ev} (h : EvsAt H l es) (s : Same H H') : EvsAt H' l es := by
  obtain ⟨as, h1, h2, h3⟩ := h
  refine ⟨as, s _ _ h1, h2, fun i e he => ?_⟩
  obtain ⟨x, hx, ho⟩ := h3 i e he
  exact ⟨x, hx, s _ _ ho⟩
/-- the parts of a machine, as the law keeps them -/
def PartsAt (H : Hp) (p : Addr) (n : Int) (es : List Ev) : Prop := ∃ l, H p = some (.tup [.int n, .ref l]) ∧ EvsAt H l es
theorem PartsAt.same {H H' : Hp} {p : Addr} {n : Int} {es : List Ev} (h : PartsAt H p n es) (s : Same H H') : PartsAt H' p n es :=
  let ⟨l, a, b⟩ := h
  ⟨l, s _ _ a, b.same s⟩
structure OkEv (n : Int) (e : Ev) : Prop where
  b0 : 0 ≤ e.b
  bn : e.b < n
  a0 : 0 ≤ e.a
  an : e.a < n
  t1 : 1 ≤ e.t
  t3 : e.t ≤ 3
  p0 : -6 ≤ e.p
  p6 : e.p ≤ 6
structure OkParts (n : Int) (es : List Ev) : Prop where
  n1 : 1 ≤ n
  n4 : n ≤ 4
  len : es.length ≤ 6
  ev : ∀ e ∈ es, OkEv n e
theorem OkParts.at {n : Int} {es : List Ev} (h : OkParts n es) {i : Nat} {e : Ev} (he : es[i]? = some e) : OkEv n e := h.ev e (List.mem_of_getElem? he)
def outs (es : List Ev) (j : Int) : List Nat := idx (fun e => decide (e.b = j)) es
def vN (l : List Nat) : List V := l.map fun i : Nat => V.int (i : Int)
theorem vN_len {l : List Nat} : (vN l).length = l.length := List.length_map ..
theorem vN_app {l m : List Nat} : vN (l ++ m) = vN l ++ vN m := List.map_append ..
/-- the attributes of a machine -/
theorem fse : ¬ (("standings" : Str) = "events") := by decide +kernel
theorem fsk : ¬ (("standings" : Str) = "kept_out") := by decide +kernel
theorem fek : ¬ (("events" : Str) = "kept_out") := by decide +kernel
def mf (n : Int) (ea la : Addr) : List (Str × V) := putF "kept_out" (.ref la) (putF "events" (.ref ea) (putF "standings" (.int n) []))
theorem mf_eq (n : Int) (ea la : Addr) : mf n ea la = [(("standings" : Str), V.int n), ("events", V.ref ea), ("kept_out", V.ref la)] := by
  show putF "kept_out" _ (if ("standings" : Str) = "events" then _ else (("standings" : Str), V.int n) :: [(("events" : Str), V.ref ea)]) = _
  rw [if_neg fse]
  show (if ("standings" : Str) = "kept_out" then _ else (("standings" : Str), V.int n) :: (if ("events" : Str) = "kept_out" then _ else (("events" : Str), V.ref ea) :: [(("kept_out" : Str), V.ref la)])) = _
  rw [if_neg fsk, if_neg fek]
theorem mf_s (n : Int) (ea la : Addr) : (mf n ea la).lookup ("standings" : Str) = some (.int n) := by
  unfold mf
  rw [lookup_putF, if_neg fsk, lookup_putF, if_neg fse, lookup_putF, if_pos rfl]
theorem mf_e (n : Int) (ea la : Addr) : (mf n ea la).lookup ("events" : Str) = some (.ref ea) := by
  unfold mf
  rw [lookup_putF, if_neg fek, lookup_putF, if_pos rfl]
theorem mf_k (n : Int) (ea la : Addr) : (mf n ea la).lookup ("kept_out" : Str) = some (.ref la) := by
  unfold mf
  rw [lookup_putF, if_pos rfl]
/-- a machine at p -/
structure MachAt (C : Addr) (H : Hp) (p : Addr) (n : Int) (es : List Ev) : Prop where
  ex : ∃ (dx ea la : Addr) (ls : List Addr), H p = some (.ins C dx (mf n ea la)) ∧ EvsAt H ea es ∧ H la = some (.lst (ls.map V.ref)) ∧ ls.length = n.toNat ∧
    ∀ (j : Nat) (l : Addr), ls[j]? = some l → H l = some (.lst (vN (outs es (j : Int))))
theorem MachAt.same {C : Addr} {H H' : Hp} {p : Addr} {n : Int} {es : List Ev} (h : MachAt C H p n es) (s : Same H H') : MachAt C H' p n es := by
  obtain ⟨dx, ea, la, ls, h1, h2, h3, h4, h5⟩ := h
  exact ⟨dx, ea, la, ls, s _ _ h1, h2.same s, s _ _ h3, h4, fun j l hj => s _ _ (h5 j l hj)⟩
/-- what the top leaves of the class -/
structure TxtM (K : PySem.W.Frag) (mg : Str → Option Value) (C : Addr) : Prop where
  cl : Cls K C
  nS : NoAttr K C "standings"
  nE : NoAttr K C "events"
  nK : NoAttr K C "kept_out"
  mgC : mg "Machine" = some (.ref C)

def spIsEvent : Sp := fun vs H Q _ => ∃ (x : Addr) (e : Ev) (n : Int), vs = [.ref x, .int n] ∧ H x = some (.tup (evV e)) ∧ OkEv n e ∧ Q (.bl true) H
def spStepAt (C : Addr) : Sp := fun vs H Q _ => ∃ (p : Addr) (n : Int) (es : List Ev) (i : Nat) (e : Ev), vs = [.ref p, .int (i : Int)] ∧ MachAt C H p n es ∧ es[i]? = some e ∧ ∀ x, H x = some (.tup (evV e)) → Q (.ref x) H
section
variable {P : Program} {w : World} {K : PySem.W.Frag} {mg : Str → Option Value} {base : Heap} {C : Addr}
theorem scIsEvent : FnScope ["thing", "standings"] ["thing", "standings"] (defScope sIsEvent) := ⟨rfl, rfl, rfl, by decide +kernel, rfl, by decide +kernel, by decide +kernel⟩
theorem at0 {a b c d : V} : atI [a, b, c, d] 0 = some a := at_of (j := 0) rfl rfl
theorem at1 {a b c d : V} : atI [a, b, c, d] 1 = some b := at_of (j := 1) rfl rfl
theorem at2 {a b c d : V} : atI [a, b, c, d] 2 = some c := at_of (j := 2) rfl rfl
theorem at3 {a b c d : V} : atI [a, b, c, d] 3 = some d := at_of (j := 3) rfl rfl
abbrev CalWithin (P : Program) (w : World) (K : PySem.W.Frag) (mg : Str → Option Value) (base : Heap) : Prop := Cal P w K mg base 2 "is_within" ["thing", "least", "most"] spIsWithin
theorem c_is_event (T : Txt mg) (c1 : CalWithin P w K mg base) (D : DefOf K mg "is_event" sIsEvent ["thing", "standings"]) : Cal P w K mg base 3 "is_event" ["thing", "standings"] spIsEvent := by
  refine D.cal fun f fd F => F.ok scIsEvent (fun vs H Q E h => ?_) (fun cdv A outer s H vs Q E hr h => ?_)
  · obtain ⟨x, e, n, rfl, _⟩ := h
    rfl
  · obtain ⟨x, e, n, rfl, hx, ok, k⟩ := h
    obtain ⟨tt, hmt⟩ := T.mt
    obtain ⟨tp, hmp⟩ := T.mp
    refine ⟨_, pss_cons (ps_if (PW.pt (pw_or (pt_not (pt_val (pe_callB call_isi (by rfl) T.isi (by decide +kernel) (pa_cons (pv 0) (pa_cons (pe_bltn (v := .ty "tuple") (by rfl) T.tuple (by decide +kernel) rfl) pa_nil)))))
        (pw_or1 (pt_cmpR op_ne (pe_callB call_len_seq (by rfl) T.len PySem.boot_len (pa_cons (pv 0) pa_nil)) pe_int (nomark _))))) (pss_one (ps_ret pe_bl)) pss_nil)
      (pss_cons (ps_if (PW.pt (pw_or (pt_not (pt_val (pcal c1 hr (pa_cons (pe_ix ix_tup (pv 0) pe_int (fun _ _ => rfl)) (pa_cons pe_int (pa_cons (pe_op op_sub (pv 1) pe_int) pa_nil))))))
        (pw_or1 (pt_not (pt_val (pcal c1 hr (pa_cons (pe_ix ix_tup (pv 0) pe_int (fun _ _ => rfl)) (pa_cons pe_int (pa_cons (pe_op op_sub (pv 1) pe_int) pa_nil))))))))) (pss_one (ps_ret pe_bl)) pss_nil)
      (pss_one (ps_ret (pe_and (pcal c1 hr (pa_cons (pe_ix ix_tup (pv 0) pe_int (fun _ _ => rfl)) (pa_cons pe_int (pa_cons (pe_glob (v := .int 40) (by rfl) hmt ⟨_, rfl⟩) pa_nil))))
        (pe_one (pcal c1 hr (pa_cons (pe_ix ix_tup (pv 0) pe_int (fun _ _ => rfl)) (pa_cons (pe_un un_neg (pe_glob (v := .int 400) (by rfl) hmp ⟨_, rfl⟩)) (pa_cons (pe_glob (v := .int 400) (by rfl) hmp ⟨_, rfl⟩) pa_nil))))))))), ?_⟩
    have b1 := ok.b0; have b2 := ok.bn; have b3 := ok.a0; have b4 := ok.an; have b5 := ok.t1; have b6 := ok.t3; have b7 := ok.p0; have b8 := ok.p6
    refine ⟨_, rfl, _, _, _, _, true, rfl, .ty "tuple", .base (.tup hx), kit_ty (by decide +kernel), _, rfl, iteF ?_⟩
    refine ⟨_, rfl, x, _, rfl, .inr (SqT.of hx), rfl, _, rfl, iteF ?_⟩
    refine ⟨_, rfl, x, _, _, _, rfl, rfl, SqT.of hx, at0, _, rfl, _, _, rfl, rfl, e.b, 0, n - 1, rfl, b1, by omega, _, rfl, iteF ?_⟩
    refine ⟨_, rfl, x, _, _, _, rfl, rfl, SqT.of hx, at1, _, rfl, _, _, rfl, rfl, e.a, 0, n - 1, rfl, b3, by omega, _, rfl, iteF ?_⟩
    refine ⟨_, rfl, x, _, _, _, rfl, rfl, SqT.of hx, at2, e.t, 1, 40, rfl, b5, by omega, _, rfl, iteT ?_⟩
    exact ⟨_, rfl, x, _, _, _, rfl, rfl, SqT.of hx, at3, _, rfl, e.p, -400, 400, rfl, by omega, by omega, k⟩
theorem c_step_at (T : TxtM K mg C) (D : DefOf K mg "step_at" sStepAt ["machine", "event"]) : Cal P w K mg base 1 "step_at" ["machine", "event"] (spStepAt C) := by
  refine D.cal fun f fd F => F.ok scStepAt (fun vs H Q E h => ?_) (fun cdv A outer s H vs Q E hr h => ?_)
  · obtain ⟨p, n, es, i, e, rfl, _⟩ := h
    rfl
  · obtain ⟨p, n, es, i, e, rfl, ⟨dx, ea, la, ls, h1, ⟨as, g1, g2, g3⟩, h3, h4, h5⟩, he, k⟩ := h
    obtain ⟨x, hx, ho⟩ := g3 i e he
    refine ⟨_, pss_one (ps_ret (pe_ix ix_tup (pe_fld (pv 0) rfl) (pv 1) (fun _ _ => rfl))), ?_⟩
    refine ⟨_, rfl, p, C, dx, _, _, rfl, h1, T.cl, T.nE, mf_e _ _ _, _, rfl, ea, _, _, V.ref x, rfl, rfl, SqT.of g1, at_of (j := i) rfl (by rw [List.getElem?_map, hx]; rfl), k x ho⟩
end
end Nv

/-! Machine: keep and __init__. -/
namespace Nv
open PySem L2
/-- keep, __init__: the machine stands, nothing else is touched -/
def spKeep (C : Addr) : Sp := fun vs H Q _ => ∃ (p dx ea : Addr) (n : Int) (es : List Ev), vs = [.ref p, .int n, .ref ea] ∧ H p = some (.ins C dx []) ∧ EvsAt H ea es ∧ OkParts n es ∧
  ∀ H', (∀ b o, H b = some o → b ≠ p → H' b = some o) → MachAt C H' p n es → Q .non H'
section
variable {P : Program} {w : World} {K : PySem.W.Frag} {mg : Str → Option Value} {base : Heap} {C : Addr}
theorem scKeep : FnScope ["self", "standings", "events", "number", "event", "standing"] ["self", "standings", "events"] (defScope sKeep) := ⟨rfl, rfl, rfl, by decide +kernel, rfl, by decide +kernel, by decide +kernel⟩
/-- a loop's turn stores at one place of a list of addresses -/
theorem ref_at {as : List Addr} {j : Nat} {l : Addr} (h : as[j]? = some l) : (as.map V.ref)[j]? = some (V.ref l) := by rw [List.getElem?_map, h]; rfl
theorem at_ref {as : List Addr} {i : Nat} {x : V} (h : (as.map V.ref)[i]? = some x) : ∃ a, as[i]? = some a ∧ x = V.ref a := by
  rw [List.getElem?_map] at h
  cases e : as[i]? with
  | none => rw [e] at h; nomatch h
  | some a => rw [e] at h; exact ⟨a, rfl, (Option.some.inj h).symm⟩
theorem get_some {α : Type} {l : List α} {i : Nat} (h : i < l.length) : ∃ x, l[i]? = some x := ⟨l[i], List.getElem?_eq_getElem h⟩
theorem outs_succ {es : List Ev} {i : Nat} {e : Ev} {j : Int} (h : es[i]? = some e) : outs (es.take (i + 1)) j = outs (es.take i) j ++ (if e.b = j then [i] else []) := by
  unfold outs
  rw [idx_succ h]
  congr 1
  by_cases z : e.b = j <;> simp [z]
theorem ok_keep {f : Addr} {fd : FuncData} (F : Fun K "keep" "Machine.keep" sKeep f fd) (T : Txt mg) (M : TxtM K mg C) : FnOk P w K mg base CX0 1 f fd ["self", "standings", "events"] (spKeep C) := by
  refine F.ok scKeep (fun vs H Q E h => ?_) (fun cdv A outer s H vs Q E hr h => ?_)
  · obtain ⟨p, dx, ea, n, es, rfl, _⟩ := h
    rfl
  · obtain ⟨p, dx, ea, n, es, rfl, hp, hE, ok, k⟩ := h
    refine ⟨_, pss_cons (ps_fld (pv 0) (pv 1) rfl) (pss_cons (ps_fld (pv 0) (pv 2) rfl)
      (pss_cons (ps_fld (pv 0) (pe_lc (own := [("standing", 5)]) (g := gName 5) (tt := tYes) rfl scKeep.nd (pi_range1 rfl T.range (pa_cons (pv 1) pa_nil))
        (blkOk_by (own := [("standing", 5)]) (N := ["self", "standings", "events", "number", "event", "standing"]) (sc := defScope sKeep) (by decide +kernel)) (fun _ _ _ _ _ => pg_name (i := 5) scKeep.nd rfl (Or.inl rfl)) (fun _ _ _ _ _ => pts_nil) (fun _ _ _ _ _ => pe_lst pa_nil)) rfl)
      (pss_one (ps_for PassesOwn.never rfl (pi_enumT (by rfl) T.enumerate (pa_cons (pv 2) pa_nil)) (pg_tup rfl (pgs_cons (pg_name (i := 3) scKeep.nd rfl (.inl rfl)) (pgs_cons (pg_name (i := 4) scKeep.nd rfl (.inl rfl)) pgs_nil)))
        (pss_one (ps_expr (pe_bm PySem.F.plainAttrs_list PySem.F.slot_list_append PySem.F.type_list_append mt_append (pe_ix ix_list (pe_fld (pv 0) rfl) (pe_ix ix_tup (pv 4) pe_int (fun _ _ => rfl)) (fun _ _ => rfl)) (pa_cons (pv 3) pa_nil)))))))), ?_⟩
    have n1 := ok.n1
    have n4 := ok.n4
    refine ⟨_, rfl, _, rfl, p, C, dx, [], rfl, hp, M.cl, M.nS, (by show 0 < 1000; decide), _, rfl, _, rfl, p, C, dx, _, rfl, upd_same, M.cl, M.nE, (by show 1 < 1000; decide), ?_⟩
    have kp1 : ∀ b o, H b = some o → b ≠ p → (upd (upd H p (.ins C dx (putF "standings" (.int n) []))) p (.ins C dx (putF "events" (.ref ea) (putF "standings" (.int n) [])))) b = some o := fun b o e hb => by
      rw [upd_ne hb, upd_ne hb]; exact e
    generalize hH1 : upd (upd H p (.ins C dx (putF "standings" (.int n) []))) p (.ins C dx (putF "events" (.ref ea) (putF "standings" (.int n) []))) = H1 at kp1
    have hp1 : H1 p = some (.ins C dx (putF "events" (.ref ea) (putF "standings" (.int n) []))) := by rw [← hH1]; exact upd_same
    -- the list of lists
    refine ⟨_, rfl, n, rfl, by omega, by omega, fun la hla => lc_range (lo := 0) (n := n.toNat) (fun i H' => ∃ ls : List Addr, ls.length = i ∧ ls.Nodup ∧ Same H1 H' ∧ H' la = some (.lst (ls.map V.ref)) ∧ (∀ l ∈ ls, H1 l = none ∧ l ≠ la) ∧ ∀ l ∈ ls, H' l = some (.lst []))
      ⟨[], rfl, List.nodup_nil, same_new (Same.refl _) hla, upd_same, by simp, by simp⟩ ?_ ?_⟩
    · rintro i H' hi ⟨ls, rfl, nd, sm, hL, hf, hv⟩
      refine ⟨rfl, Nat.zero_le _, fun l hl => ⟨ls.map V.ref, ?_, by rw [List.length_map]; exact small1000 (by omega), ls ++ [l], ?_, ?_, ?_, ?_, ?_, ?_⟩⟩
      · rw [upd_ne (ne_of_none hL hl)]; exact hL
      · rw [List.length_append]; rfl
      · refine nd_snoc nd fun hm => ?_
        rw [hv l hm] at hl; cases hl
      · exact same_upd (same_new sm hl) hla
      · rw [List.map_append]; exact upd_same
      · intro l' hm
        rcases List.mem_append.1 hm with hm | hm
        · exact hf l' hm
        · rw [List.mem_singleton.1 hm]
          exact ⟨sm.free hl, (ne_of_none hL hl).symm⟩
      · intro l' hm
        rcases List.mem_append.1 hm with hm | hm
        · rw [upd_ne (hf l' hm).2, upd_ne (ne_of_none (hv l' hm) hl)]
          exact hv l' hm
        · rw [List.mem_singleton.mp hm, upd_ne (ne_of_none hL hl).symm]
          exact upd_same
    · rintro H' ⟨ls, hln, nd, sm, hL, hf, hv⟩
      refine ⟨_, rfl, p, C, dx, _, rfl, sm _ _ hp1, M.cl, M.nK, (by show 2 < 1000; decide), ?_⟩
      have npla : p ≠ la := ne_of_none hp1 hla
      have npl : ∀ l ∈ ls, l ≠ p := fun l hm e => by have := (hf l hm).1; rw [e, hp1] at this; cases this
      -- the loop
      have hE1 : EvsAt (upd H' p (.ins C dx (mf n ea la))) ea es := by
        obtain ⟨as, a1, a2, a3⟩ := hE
        have ne : ∀ b xs, H b = some (.tup xs) → b ≠ p := fun b xs e q => by rw [q, hp] at e; cases e
        refine ⟨as, ?_, a2, fun i e he => ?_⟩
        · rw [upd_ne (ne _ _ a1)]; exact sm _ _ (kp1 _ _ a1 (ne _ _ a1))
        · obtain ⟨x, hx, ho⟩ := a3 i e he
          exact ⟨x, hx, by rw [upd_ne (ne _ _ ho)]; exact sm _ _ (kp1 _ _ ho (ne _ _ ho))⟩
      have kp2 : ∀ b o, H b = some o → b ≠ p → (upd H' p (.ins C dx (mf n ea la))) b = some o := fun b o e hb => by
        rw [upd_ne hb]; exact sm _ _ (kp1 b o e hb)
      have hfr : ∀ l ∈ ls, H l = none := fun l hm => by
        cases e : H l with
        | none => rfl
        | some o => have := kp1 l o e (npl l hm); rw [(hf l hm).1] at this; cases this
      have hL2 : (upd H' p (.ins C dx (mf n ea la))) la = some (.lst (ls.map V.ref)) := by rw [upd_ne npla.symm]; exact hL
      have hv2 : ∀ l ∈ ls, (upd H' p (.ins C dx (mf n ea la))) l = some (.lst []) := fun l hm => by rw [upd_ne (npl l hm)]; exact hv l hm
      obtain ⟨as, a1, a2, a3⟩ := id hE1
      refine ⟨_, rfl, ea, _, rfl, a1, for_it walk_enumT (fun i σ H3 => ∃ v3 v4 : Option V, σ = [some (.ref p), some (.int n), some (.ref ea), v3, v4, none] ∧ (∀ b o, H b = some o → b ≠ p → H3 b = some o) ∧ H3 p = some (.ins C dx (mf n ea la)) ∧ EvsAt H3 ea es ∧ H3 ea = some (.tup (as.map V.ref)) ∧ H3 la = some (.lst (ls.map V.ref)) ∧
        ∀ (j : Nat) l, ls[j]? = some l → H3 l = some (.lst (vN (outs (es.take i) (j : Int)))))
        ⟨none, none, rfl, kp2, upd_same, hE1, a1, hL2, fun j l hj => (hv2 l (List.mem_of_getElem? hj)).trans (by rw [outs, idx_nil]; rfl)⟩ (fun i σ H3 _ ⟨_, _, _, _, _, _, g, _⟩ => g) ?_ ?_⟩
      · rintro i x σ H3 H4 hi ⟨v3, v4, rfl, kp3, hp3, hE3, hea, hla3, hv3⟩ ⟨Tn, x1, x2, rfl, hTn, rfl, ex1, ex2⟩
        cases ex1
        rw [List.length_map, a2] at hi
        obtain ⟨e, he⟩ := get_some hi
        obtain ⟨as3, c1, c2, c3⟩ := id hE3
        rw [hea] at c1
        have c1' : as.map V.ref = as3.map V.ref := HO.tup.inj (Option.some.inj c1)
        obtain ⟨xa, hxa, hxo⟩ := c3 i e he
        have ex2' : (as3.map V.ref)[i]? = some x2 := by rw [← c1']; exact ex2
        rw [ref_at hxa] at ex2'
        cases ex2'
        have okE := ok.at he
        have hj : e.b = ((e.b.toNat : Nat) : Int) := by have := okE.b0; omega
        obtain ⟨lj, hlj⟩ := get_some (l := ls) (i := e.b.toNat) (by rw [hln]; have := okE.bn; have := okE.b0; omega)
        have nT : ∀ b o, H3 b = some o → b ≠ Tn := fun b o e => ne_of_none e hTn
        refine ⟨Tn, _, rfl, SqT.of upd_same, rfl, _, _, rfl, _, _, rfl, rfl, ?_⟩
        refine ⟨_, rfl, p, C, dx, _, _, rfl, (by rw [upd_ne (nT _ _ hp3)]; exact hp3), M.cl, M.nK, mf_k _ _ _, _, rfl, xa, _, _, _, rfl, rfl, SqT.of (by rw [upd_ne (nT _ _ hxo)]; exact hxo), at0, la, _, e.b, V.ref lj, rfl, rfl, SqL.of (by rw [upd_ne (nT _ _ hla3)]; exact hla3), at_of hj (ref_at hlj),
          .inl ⟨rfl, _, SqL.of (by rw [upd_ne (nT _ _ (hv3 _ _ hlj))]; exact hv3 _ _ hlj)⟩, _, rfl, lj, _, _, rfl, rfl, (by rw [upd_ne (nT _ _ (hv3 _ _ hlj))]; exact hv3 _ _ hlj), ?_, ?_⟩
        · rw [vN_len]
          exact small1000 (by have := idx_len (q := fun e' : Ev => decide (e'.b = ((e.b.toNat : Nat) : Int))) (es := es.take i); rw [List.length_take] at this; have := ok.len; unfold outs; omega)
        · have nl : ∀ b o, H3 b = some o → (∀ xs, o ≠ .lst xs) → b ≠ lj := fun b o e1 ho q => by
            rw [q, hv3 _ _ hlj] at e1
            exact ho _ (Option.some.inj e1).symm
          have keep : ∀ b o, H3 b = some o → b ≠ lj → (upd (upd H3 Tn (.tup [.int (i : Int), .ref xa])) lj (.lst (vN (outs (es.take i) ((e.b.toNat : Nat) : Int)) ++ [V.int (i : Int)]))) b = some o := fun b o e1 hb => by
            rw [upd_ne hb, upd_ne (nT _ _ e1)]; exact e1
          refine ⟨_, _, rfl, fun b o e1 hb => keep b o (kp3 b o e1 hb) (fun q => ?_), keep _ _ hp3 (nl _ _ hp3 (fun _ q => nomatch q)), ?_, keep _ _ hea (nl _ _ hea (fun _ q => nomatch q)), keep _ _ hla3 (fun q => ?_), fun j l hjl => ?_⟩
          · rw [q, hfr lj (List.mem_of_getElem? hlj)] at e1; cases e1
          · refine ⟨as3, keep _ _ (by rw [← c1']; exact hea) (nl _ _ hea (fun _ q => nomatch q)), c2, fun i' e' he' => ?_⟩
            obtain ⟨y, hy, hyo⟩ := c3 i' e' he'
            exact ⟨y, hy, keep _ _ hyo (nl _ _ hyo (fun _ q => nomatch q))⟩
          · exact (hf lj (List.mem_of_getElem? hlj)).2 q.symm
          · rw [outs_succ he]
            by_cases hjj : j = e.b.toNat
            · subst hjj
              rw [hlj] at hjl
              cases hjl
              rw [upd_same, if_pos hj, vN_app]
              rfl
            · have hne : l ≠ lj := fun q => hjj (nd_ix nd hjl (by rw [q]; exact hlj))
              rw [keep _ _ (hv3 _ _ hjl) hne, if_neg (by omega), List.append_nil]
      · rintro σ H3 ⟨v3, v4, rfl, kp3, hp3, hE3, hea, hla3, hv3⟩
        refine k H3 kp3 ⟨dx, ea, la, ls, hp3, hE3, hla3, hln, fun j l hj => ?_⟩
        rw [hv3 j l hj, List.length_map, a2, List.take_length]
theorem scInit : FnScope ["self", "standings", "events", "number", "thing"] ["self", "standings", "events"] (defScope sInit) := ⟨rfl, rfl, rfl, by decide +kernel, rfl, by decide +kernel, by decide +kernel⟩
theorem ok_init {f fK : Addr} {fd fdK : FuncData} (F : Fun K "__init__" "Machine.__init__" sInit f fd) (T : Txt mg) (M : TxtM K mg C) (c1 : CalWithin P w K mg base) (c2 : Cal P w K mg base 3 "is_event" ["thing", "standings"] spIsEvent)
    (FK : Fun K "keep" "Machine.keep" sKeep fK fdK) (bK : Binds K fdK ["self", "standings", "events"] []) (mK : Meth K C "keep" fK) : FnOk P w K mg base CX0 4 f fd ["self", "standings", "events"] (spKeep C) := by
  have GK : FnOk P w K mg base CX0 1 fK fdK ["self", "standings", "events"] (spKeep C) := ok_keep FK T M
  refine F.ok scInit (fun vs H Q E h => ?_) (fun cdv A outer s H vs Q E hr h => ?_)
  · obtain ⟨p, dx, ea, n, es, rfl, _⟩ := h
    rfl
  · obtain ⟨p, dx, ea, n, es, rfl, hp, hE, ok, k⟩ := h
    obtain ⟨ts, hms⟩ := T.ms
    obtain ⟨te, hme⟩ := T.me
    refine ⟨_, pss_cons (ps_if (pt_not (pt_val (pcal c1 hr (pa_cons (pv 1) (pa_cons pe_int (pa_cons (pe_glob (v := .int 12) (by rfl) hms ⟨_, rfl⟩) pa_nil)))))) (pss_one ps_never) pss_nil)
      (pss_cons (ps_if (PW.pt (pw_or (pt_not (pt_val (pe_callB call_isi (by rfl) T.isi (by decide +kernel) (pa_cons (pv 2) (pa_cons (pe_bltn (v := .ty "tuple") (by rfl) T.tuple (by decide +kernel) rfl) pa_nil)))))
        (pw_or1 (pt_cmpR op_gt (pe_callB call_len_seq (by rfl) T.len PySem.boot_len (pa_cons (pv 2) pa_nil)) (pe_glob (v := .int 30) (by rfl) hme ⟨_, rfl⟩) (nomark _))))) (pss_one ps_never) pss_nil)
      (pss_cons (ps_for PassesOwn.never rfl (pi_enumT (by rfl) T.enumerate (pa_cons (pv 2) pa_nil)) (pg_tup rfl (pgs_cons (pg_name (i := 3) scInit.nd rfl (.inl rfl)) (pgs_cons (pg_name (i := 4) scInit.nd rfl (.inl rfl)) pgs_nil)))
        (pss_one (ps_if (pt_not (pt_val (pcal c2 hr (pa_cons (pv 4) (pa_cons (pv 1) pa_nil))))) (pss_one ps_never) pss_nil)))
      (pss_one (ps_expr (pe_meth (pv 0) M.cl mK GK (hr.mono (by decide)) bK .nil pass0 (pa_cons (pv 1) (pa_cons (pv 2) pa_nil))))))), ?_⟩
    have n1 := ok.n1
    have n4 := ok.n4
    obtain ⟨as, a1, a2, a3⟩ := id hE
    have hlen := ok.len
    refine ⟨_, rfl, n, 1, 12, rfl, n1, by omega, _, rfl, iteF ?_⟩
    refine ⟨_, rfl, _, _, _, _, true, rfl, .ty "tuple", .base (.tup a1), kit_ty (by decide +kernel), _, rfl, iteF ?_⟩
    refine ⟨_, rfl, ea, _, rfl, .inr (SqT.of a1), _, _, rfl, rfl, _, rfl, ?_⟩
    have hle : decide ((30 : Int) < ((as.map V.ref).length : Nat)) = false := decide_eq_false (by rw [List.length_map, a2]; omega)
    rw [hle]
    refine iteF ?_
    refine ⟨_, rfl, ea, _, rfl, a1, for_it walk_enumT (fun i σ H3 => ∃ v3 v4 : Option V, σ = [some (.ref p), some (.int n), some (.ref ea), v3, v4] ∧ Same H H3) ⟨none, none, rfl, Same.refl _⟩ (fun i σ H3 _ ⟨_, _, _, g⟩ => g _ _ a1) ?_ ?_⟩
    · rintro i x σ H3 H4 hi ⟨v3, v4, rfl, sm⟩ ⟨Tn, x1, x2, rfl, hTn, rfl, ex1, ex2⟩
      cases ex1
      rw [List.length_map, a2] at hi
      obtain ⟨e, he⟩ := get_some hi
      obtain ⟨xa, hxa, hxo⟩ := a3 i e he
      have ex3 : (as.map V.ref)[i]? = some x2 := ex2
      rw [ref_at hxa] at ex3
      cases ex3
      refine ⟨Tn, _, rfl, SqT.of upd_same, rfl, _, _, rfl, _, _, rfl, rfl, ?_⟩
      refine ⟨_, rfl, _, rfl, xa, e, n, rfl, (by rw [upd_ne (ne_of_none (sm _ _ hxo) hTn)]; exact sm _ _ hxo), ok.at he, _, rfl, iteF ?_⟩
      exact ⟨_, _, rfl, same_new sm hTn⟩
    · rintro σ H3 ⟨v3, v4, rfl, sm⟩
      refine ⟨_, rfl, p, dx, _, rfl, sm _ _ hp, rfl, _, rfl, _, rfl, p, dx, ea, n, es, rfl, sm _ _ hp, hE.same sm, ok, fun H4 kp m => ?_⟩
      exact k H4 (fun b o e hb => kp b o (sm _ _ e) hb) m
end
end Nv

/-! flooded. -/
namespace Nv
open PySem L2
abbrev sFlooded : Stmt := top 17
/-- the pairs of a dict of True -/
def dset (ks : List Int) : List (Key × V) := ks.map fun k => (Sum.inl k, V.bl true)
theorem valV_dset (ks : List Int) (k : Int) : valV (dset ks) (Sum.inl k) = if k ∈ ks then some (V.bl true) else none := by
  induction ks with
  | nil => simp [dset, valV]
  | cons a r ih =>
    have e : dset (a :: r) = (Sum.inl a, V.bl true) :: dset r := rfl
    rw [e]
    by_cases h : a = k
    · rw [valV_pos (by rw [h]), if_pos (by rw [h]; exact List.mem_cons_self)]
    · rw [valV_neg (fun q => h (Sum.inl.inj q)), ih]
      have : (k ∈ a :: r) ↔ k ∈ r := ⟨fun q => (List.mem_cons.mp q).resolve_left fun z => h z.symm, fun q => List.mem_cons_of_mem _ q⟩
      simp only [this]
theorem dset_put {ks : List Int} {k : Int} (h : ¬ k ∈ ks) : putK (dset ks) (Sum.inl k) (V.bl true) = dset (ks ++ [k]) := by
  rw [putK_new _ (by rw [valV_dset, if_neg h])]
  unfold dset
  rw [List.map_append]
  rfl
theorem dset_len {ks : List Int} : (dset ks).length = ks.length := List.length_map ..
def vI (l : List Int) : List V := l.map V.int
theorem vI_app {l m : List Int} : vI (l ++ m) = vI l ++ vI m := List.map_append ..
theorem vI_len {l : List Int} : (vI l).length = l.length := List.length_map ..
theorem reach_in {es : List Ev} {n u v : Int} (ok : OkParts n es) (h0 : 0 ≤ u) (h1 : u < n) (r : Reach es u v) : 0 ≤ v ∧ v < n :=
  r.closed (S := fun x => 0 ≤ x ∧ x < n) ⟨h0, h1⟩ fun i e he _ => ⟨(ok.at he).a0, (ok.at he).an⟩
theorem at_vN {l : List Nat} {i : Nat} {x : V} (h : (vN l)[i]? = some x) : ∃ k, l[i]? = some k ∧ x = V.int (k : Int) := by
  unfold vN at h
  rw [List.getElem?_map] at h
  cases e : l[i]? with
  | none => rw [e] at h; nomatch h
  | some k => rw [e] at h; exact ⟨k, rfl, (Option.some.inj h).symm⟩
theorem last_split {l : List Int} (h : l ≠ []) : ∃ m x, l = m ++ [x] := ⟨l.dropLast, l.getLast h, (List.dropLast_concat_getLast h).symm⟩
def spFlooded (C : Addr) : Sp := fun vs H Q _ => ∃ (p d : Addr) (st n : Int) (es : List Ev) (kvs : List (Key × V)), vs = [.ref p, .int st, .ref d] ∧ MachAt C H p n es ∧ OkParts n es ∧ 0 ≤ st ∧ st < n ∧ Rd H d (.dK kvs) ∧
  (∀ v, Reach es st v → (valV kvs (Sum.inl v)).isSome = true) ∧ ∀ (H' : Hp) (a : Addr) (ks : List Int), Same H H' → H a = none → H' a = some (.dK (dset ks)) → ks.Nodup → (∀ v, v ∈ ks ↔ Reach es st v) → Q (.ref a) H'
section
variable {P : Program} {w : World} {K : PySem.W.Frag} {mg : Str → Option Value} {base : Heap} {C : Addr}
theorem rd_same {H H' : Hp} {d : Addr} {u : HO} (s : Same H H') (h : Rd H d u) : Rd H' d u := by
  rcases h with h | ⟨o, h⟩
  · exact .inl (s _ _ h)
  · exact .inr ⟨o, s _ _ h⟩
theorem DGet.rd {H : Hp} {a : Addr} {kvs : List (Key × V)} {k : Key} (e : Rd H a (.dK kvs)) : DGet H a (kV k) (valV kvs k) := .inl ⟨kvs, k, e, rfl, rfl⟩
theorem scFlooded : FnScope ["machine", "start", "inner", "found", "waiting", "standing", "event", "after"] ["machine", "start", "inner"] (defScope sFlooded) := ⟨rfl, rfl, rfl, by decide +kernel, rfl, by decide +kernel, by decide +kernel⟩
/-- the state of the flood: ks found, ws waiting -/
structure Flood (es : List Ev) (n st : Int) (ks ws : List Int) : Prop where
  nd : ks.Nodup
  h0 : st ∈ ks
  re : ∀ k ∈ ks, Reach es st k
  sub : ∀ x ∈ ws, x ∈ ks
  wl : ws.length ≤ ks.length
theorem Flood.len {es : List Ev} {n st : Int} {ks ws : List Int} (f : Flood es n st ks ws) (ok : OkParts n es) (h0 : 0 ≤ st) (h1 : st < n) : ks.length ≤ n.toNat :=
  nodup_ints_len f.nd fun k hk => reach_in ok h0 h1 (f.re k hk)
def Done (es : List Ev) (ks : List Int) (k : Int) : Prop := ∀ (i : Nat) (e : Ev), es[i]? = some e → e.b = k → e.a ∈ ks
theorem Done.more {es : List Ev} {ks : List Int} {k x : Int} (h : Done es ks k) : Done es (ks ++ [x]) k := fun i e he hb => List.mem_append_left _ (h i e he hb)
theorem c_flooded (T : Txt mg) (M : TxtM K mg C) (cS : Cal P w K mg base 1 "step_at" ["machine", "event"] (spStepAt C)) (D : DefOf K mg "flooded" sFlooded ["machine", "start", "inner"]) :
    Cal P w K mg base 2 "flooded" ["machine", "start", "inner"] (spFlooded C) := by
  refine D.cal fun f fd F => F.ok scFlooded (fun vs H Q E h => ?_) (fun cdv A outer s H vs Q E hr h => ?_)
  · obtain ⟨p, d, st, n, es, kvs, rfl, _⟩ := h
    rfl
  · obtain ⟨p, d, st, n, es, kvs, rfl, hM, ok, st0, st1, hd, hin, k⟩ := h
    have hu := hu_of hr
    refine ⟨_, pss_cons (ps_set (i := 3) scFlooded.nd rfl (.inl rfl) (pe_disp (pps_cons (pv 1) pe_bl pps_nil) (by rfl) (by rfl) (fun z => by cases z) (by decide)))
      (pss_cons (ps_set (i := 4) scFlooded.nd rfl (.inl rfl) (pe_lst (pa_cons (pv 1) pa_nil)))
      (pss_cons (ps_while PassesOwn.never (pt_cmpR op_gt (pe_callB call_len_seq (by rfl) T.len PySem.boot_len (pa_cons (pv 4) pa_nil)) pe_int (nomark _))
        (pss_cons (ps_set (i := 5) scFlooded.nd rfl (.inl rfl) (pe_bm0 PySem.F.plainAttrs_list PySem.F.slot_list_pop PySem.F.type_list_pop mt_pop (pv 4)))
        (pss_one (ps_for PassesOwn.never rfl (pi_list (pe_ix ix_list (pe_fld (pv 0) rfl) (pv 5) (fun _ _ => rfl))) (pg_name (i := 6) scFlooded.nd rfl (.inl rfl))
          (pss_cons (ps_set (i := 7) scFlooded.nd rfl (.inl rfl) (pe_ix ix_tup (pcal cS hr (pa_cons (pv 0) (pa_cons (pv 6) pa_nil))) pe_int (fun _ _ => rfl)))
          (pss_one (ps_if (PW.pt (pw_and (pt_cmp (pc_dnotin hu (pv 7) (pv 3))) (pw_and1 (pt_cmp (pc_din hu (pv 7) (pv 2))))))
            (pss_cons (ps_dput hu (pv 3) (pv 7) pe_bl rfl) (pss_one (ps_expr (pe_bm PySem.F.plainAttrs_list PySem.F.slot_list_append PySem.F.type_list_append mt_append (pv 4) (pa_cons (pv 7) pa_nil))))) pss_nil)))))))
      (pss_one (ps_ret (pv 3))))), ?_⟩
    intro fd nfd
    refine ⟨_, rfl, upd_same, [(Sum.inl st, V.bl true)], rfl, (by show 1 ≤ 15; decide), _, rfl, (by show 1 ≤ sizeLine; decide), fun wd nwd => ?_⟩
    have hfw : fd ≠ wd := fun q => by rw [q, upd_same] at nwd; cases nwd
    have nwd0 : H wd = none := by rw [upd_ne hfw.symm, upd_ne hfw.symm] at nwd; exact nwd
    have sm0 : Same H (upd (upd (upd H fd (.dK [])) fd (.dK (mergeK [] [(Sum.inl st, V.bl true)]))) wd (.lst [.int st])) := same_upd (same_upd (same_upd (Same.refl _) nfd) nfd) nwd0
    have n4 := ok.n4
    -- the while
    refine ⟨fun m σ H' => ∃ (ks ws : List Int) (v5 v6 v7 : Option V), σ = [some (.ref p), some (.int st), some (.ref d), some (.ref fd), some (.ref wd), v5, v6, v7] ∧ Same H H' ∧ H' fd = some (.dK (dset ks)) ∧ H' wd = some (.lst (vI ws)) ∧
      Flood es n st ks ws ∧ (∀ x ∈ ks, x ∈ ws ∨ Done es ks x) ∧ ws.length + 2 * (n.toNat - ks.length) = m, ⟨_, [st], [st], none, none, none, rfl, sm0, ?_, upd_same, ⟨by simp, by simp, fun x hx => ?_, fun x hx => hx, Nat.le_refl _⟩, fun x hx => .inl hx, rfl⟩, ?_⟩
    · rw [upd_ne hfw]; exact upd_same
    · rw [List.mem_singleton.mp hx]; exact Reach.refl _
    rintro m0 σ H1 ⟨ks, ws, v5, v6, v7, rfl, sm, hf, hw, fl, dn, hm0⟩
    refine ⟨_, rfl, wd, _, rfl, .inl (SqL.of hw), _, _, rfl, rfl, _, rfl, ite2 (fun hgt => ?_) (fun hgt => ?_)⟩
    · have hne : ws ≠ [] := fun q => by subst q; exact absurd (of_decide_eq_true hgt) (by decide)
      obtain ⟨ws', x, rfl⟩ := last_split hne
      refine ⟨_, fun σ' H' z => z, ?_⟩
      have hx : x ∈ ks := fl.sub x (by simp)
      obtain ⟨x0, x1⟩ := reach_in ok st0 st1 (fl.re x hx)
      refine ⟨_, rfl, .inl ⟨rfl, _, SqL.of hw⟩, wd, _, V.int x, rfl, rfl, hw, (by rw [vI_app]; simp [vI]), ?_⟩
      have hdl : (vI (ws' ++ [x])).dropLast = vI ws' := by rw [vI_app]; simp [vI]
      rw [hdl]
      have sm2 : Same H (upd H1 wd (.lst (vI ws'))) := same_upd sm nwd0
      have hw2 : (upd H1 wd (.lst (vI ws'))) wd = some (.lst (vI ws')) := upd_same
      have hf2 : (upd H1 wd (.lst (vI ws'))) fd = some (.dK (dset ks)) := by rw [upd_ne hfw]; exact hf
      generalize upd H1 wd (.lst (vI ws')) = H2 at sm2 hw2 hf2 ⊢
      obtain ⟨dx, ea, la, ls, h1, h2, h3, h4, h5⟩ := hM.ex
      have hxr := fl.re x hx
      have hin2 := hin
      obtain ⟨lx, hlx⟩ := get_some (l := ls) (i := x.toNat) (by omega)
      have hxn : x = ((x.toNat : Nat) : Int) := by omega
      have hlx0 := h5 _ _ hlx
      rw [← hxn] at hlx0
      have hlx2 := sm2 _ _ hlx0
      refine ⟨_, rfl, p, C, dx, _, _, rfl, sm2 _ _ h1, M.cl, M.nK, mf_k _ _ _, _, rfl, la, _, x, V.ref lx, rfl, rfl, SqL.of (sm2 _ _ h3), at_of hxn (ref_at hlx), lx, rfl, ⟨_, SqL.of hlx2⟩,
        for_list (K := K) (a := lx) (xs := vN (outs es x)) (fun i σ H3 => ∃ (ks ws : List Int) (v6 v7 : Option V), σ = [some (.ref p), some (.int st), some (.ref d), some (.ref fd), some (.ref wd), some (.int x), v6, v7] ∧ Same H H3 ∧ H3 fd = some (.dK (dset ks)) ∧ H3 wd = some (.lst (vI ws)) ∧
          H3 lx = some (.lst (vN (outs es x))) ∧ Flood es n st ks ws ∧ (∀ y ∈ ks, y ∈ ws ∨ y = x ∨ Done es ks y) ∧ (∀ (j k : Nat) e, j < i → (outs es x)[j]? = some k → es[k]? = some e → e.a ∈ ks) ∧ ws.length + 2 * (n.toNat - ks.length) < m0)
          ⟨ks, ws', v6, v7, rfl, sm2, hf2, hw2, hlx2, ⟨fl.nd, fl.h0, fl.re, fun y hy => fl.sub y (by simp [hy]), by have := fl.wl; rw [List.length_append, List.length_singleton] at this; omega⟩, fun y hy => ?_, fun j k e hj => absurd hj (Nat.not_lt_zero _), ?_⟩ (fun i σ H3 _ ⟨_, _, _, _, _, _, _, _, g, _⟩ => SqL.of g) ?_ ?_⟩
      · rcases dn y hy with z | z
        · rcases List.mem_append.1 z with z | z
          · exact .inl z
          · exact .inr (.inl (List.mem_singleton.mp z))
        · exact .inr (.inr z)
      · rw [← hm0, List.length_append, List.length_singleton]; omega
      · rintro i y σ H3 hi ⟨ks, ws, v6, v7, rfl, sm3, hf3, hw3, hl3, fl, dn, hj, hlt⟩
        obtain ⟨k0, hk0, rfl⟩ := at_vN hi
        obtain ⟨e, he, hb⟩ := mem_idx.mp (List.mem_of_getElem? hk0)
        have hb' : e.b = x := of_decide_eq_true hb
        refine ⟨_, rfl, _, rfl, p, n, es, k0, e, rfl, hM.same sm3, he, fun xa hxa => ?_⟩
        refine ⟨xa, _, _, _, rfl, rfl, SqT.of hxa, at1, ?_⟩
        refine ⟨_, rfl, _, rfl, fd, _, rfl, DGet.k (k := Sum.inl e.a) hf3, _, rfl, ?_⟩
        have hre : Reach es st e.a := (show Reach es st e.b by rw [hb']; exact hxr).step he
        have hout : ∀ {ks' : List Int}, (∀ z ∈ ks, z ∈ ks') → e.a ∈ ks' → ∀ (j k : Nat) e', j < i + 1 → (outs es x)[j]? = some k → es[k]? = some e' → e'.a ∈ ks' := fun hsub hin j k e' hjl hk he' => by
          rcases Nat.lt_or_ge j i with z | z
          · exact hsub _ (hj j k e' z hk he')
          · have : j = i := by omega
            subst this
            rw [hk0] at hk
            cases hk
            rw [he] at he'
            cases he'
            exact hin
        by_cases hin : e.a ∈ ks
        · rw [valV_dset, if_pos hin]
          refine iteF (iteF ?_)
          exact ⟨ks, ws, _, _, rfl, sm3, hf3, hw3, hl3, fl, dn, hout (fun _ z => z) hin, hlt⟩
        · rw [valV_dset, if_neg hin]
          refine iteT ?_
          have hio := hin2 _ hre
          refine ⟨_, rfl, _, rfl, d, _, rfl, DGet.rd (k := Sum.inl e.a) (rd_same sm3 hd), _, rfl, ?_⟩
          rw [hio]
          refine iteT ?_
          have hlen := fl.len ok st0 st1
          have fl2 : Flood es n st (ks ++ [e.a]) (ws ++ [e.a]) := ⟨nd_snoc fl.nd hin, List.mem_append_left _ fl.h0, fun z hz => (List.mem_append.mp hz).elim (fl.re z) fun q => by rw [List.mem_singleton.mp q]; exact hre,
            fun z hz => (List.mem_append.mp hz).elim (fun q => List.mem_append_left _ (fl.sub z q)) fun q => List.mem_append_right _ q, by rw [List.length_append, List.length_append]; exact Nat.succ_le_succ fl.wl⟩
          have hlen2 := fl2.len ok st0 st1
          rw [List.length_append, List.length_singleton] at hlen2
          have hwl := fl.wl
          refine ⟨_, rfl, _, rfl, fd, _, rfl, DPut.k (k := Sum.inl e.a) hf3 (small1000 (by rw [dset_len]; omega)), ?_⟩
          rw [dset_put hin]
          have hwf : wd ≠ fd := fun q => by rw [q, hf3] at hw3; cases hw3
          refine ⟨_, rfl, .inl ⟨rfl, _, SqL.of (by rw [upd_ne hwf]; exact hw3)⟩, _, rfl, wd, _, _, rfl, rfl, (by rw [upd_ne hwf]; exact hw3), small1000 (by rw [vI_len]; omega), ?_⟩
          have nlf : lx ≠ fd := ne_of_none hlx0 nfd
          have nlw : lx ≠ wd := ne_of_none hlx0 nwd0
          refine ⟨ks ++ [e.a], ws ++ [e.a], _, _, rfl, same_upd (same_upd sm3 nfd) nwd0, ?_, ?_, ?_, fl2, fun z hz => ?_, hout (fun z hz => List.mem_append_left _ hz) (by simp), ?_⟩
          · rw [upd_ne hfw]; exact upd_same
          · rw [vI_app]; exact upd_same
          · rw [upd_ne nlw, upd_ne nlf]; exact hl3
          · rcases List.mem_append.1 hz with hz | hz
            · rcases dn z hz with q | q | q
              · exact .inl (List.mem_append_left _ q)
              · exact .inr (.inl q)
              · exact .inr (.inr q.more)
            · exact .inl (List.mem_append_right _ hz)
          · rw [List.length_append, List.length_append, List.length_singleton]; omega
      · rintro σ H3 ⟨ks, ws, v6, v7, rfl, sm3, hf3, hw3, hl3, fl, dn, hj, hlt⟩
        refine ⟨_, hlt, ks, ws, _, _, _, rfl, sm3, hf3, hw3, fl, fun y hy => ?_, rfl⟩
        rcases dn y hy with z | z | z
        · exact .inl z
        · refine .inr fun i e he hb => ?_
          have hm : i ∈ outs es x := mem_idx.mpr ⟨e, he, decide_eq_true (hb.trans z)⟩
          obtain ⟨j, hj', hje⟩ := List.mem_iff_getElem.mp hm
          exact hj j i e (by rw [vN_len]; exact hj') (by rw [List.getElem?_eq_getElem hj', hje]) he
        · exact .inr z
    · have hws : ws = [] := by
        cases ws with
        | nil => rfl
        | cons a r => exact absurd (decide_eq_true (by rw [vI_len, List.length_cons]; omega)) hgt
      subst hws
      refine ⟨_, rfl, k H1 fd ks sm nfd hf fl.nd fun v => ⟨fl.re v, fun r => ?_⟩⟩
      exact r.closed (S := fun y => y ∈ ks) fl.h0 fun i e he hb => (dn _ hb).elim (fun z => by cases z) fun z => z i e he rfl
end
end Nv

/-! A dict by two clauses: one law of a clause's loop in its block, used for the first clause and for the second alike. -/
namespace Nv
open PySem L2
open PySem.Spec PyProof.Rows
/-- nothing is raised -/
abbrev Never : Value → Shared → Prop := fun _ _ => False
abbrev cls (t i : Expr) (cs : List Expr) : Comprehension := ⟨t, i, cs, 0⟩
/-- the tests of a clause, from the left -/
abbrev tested (cs : List Expr) (env : Env) : Sem Bool :=
  forIn cs true fun c r => if r = true then isTrue c env (eval c env) >>= fun ok => pure (ForInStep.yield ok) else pure (ForInStep.yield r)
/-- a turn of a clause: at the source's end it is over; else the thing is stored and tried, and where it stands the tests more follows -/
def oneTurn (at_ : Pos) (tg : Expr) (cs : List Expr) (it : Value) (env : Env) (c : Code) (more : Sem Fin) : Sem Fin :=
  standAt at_ >>= fun _ => pyNext it >>= fun r => match r with
    | none => pure (.done .next)
    | some v => letOwnedTupleGo tg it v >>= fun _ => assign tg env v >>= fun _ => tested cs env >>= fun ok => if ok = true then more else again c
/-- what more ends in: the loop c again -/
def Back (c : Code) (R : Result → Shared → Prop) (again_ : Shared → Prop) : Fin → Shared → Prop
  | .done f, s => R (.ok f) s
  | .again d, s => d = c ∧ again_ s
section
variable {P : Program} {w : World} {R : Result → Shared → Prop} {A : Around}
/-- a loop whose turn is oneTurn -/
theorem loop_of {c : Code} {at_ : Pos} {tg : Expr} {cs : List Expr} {it : Value} {env : Env} {more : Sem Fin} (hq : c.quiet = true) (hu : A.under c = A)
    (hd : (model P w).den c = (oneTurn at_ tg cs it env c more).onRaise fun x => noteFrame x env >>= fun _ => theTreesLotGoes x) (I : Nat → Shared → Prop)
    (h : ∀ n s, I n s → wpAny (model P w) A (pyNext it) (fun r s1 => match r with
      | none => R (.ok .next) s1
      | some v => wpAny (model P w) A (letOwnedTupleGo tg it v) (fun _ s2 => wpAny (model P w) A (assign tg env v) (fun _ s3 => wpAny (model P w) A (tested cs env)
          (fun ok s4 => if ok = true then wpAny (model P w) A more (Back c R fun s' => ∃ m, m < n ∧ I m s') Never s4 else ∃ m, m < n ∧ I m s4) Never s3) Never s2) Never s1) Never s)
    {n : Nat} {s : Shared} (h0 : I n s) : codeAny (model P w) A c R s := by
  refine codeAny_loop hq I (fun n s hI => ?_) n h0
  rw [hu, hd]
  refine wpAny_noted (wpAny_mono (Q := Back c R fun s' => ∃ m, m < n ∧ I m s') (E := Never) ?_ (fun fin s' q => ?_) fun _ _ z => z.elim)
  · refine wpAny_bind (wpAny_standAt (wpAny_bind (thn (h n s hI) fun r s1 h1 => ?_)))
    cases r with
    | none => exact wpAny_pure h1
    | some v =>
      refine wpAny_bind (thn h1 fun _ s2 h2 => wpAny_bind (thn h2 fun _ s3 h3 => ?_))
      refine wpAny_bind (thn h3 fun ok s4 h4 => ?_)
      cases ok with
      | true => exact h4
      | false => exact wpAny_pure ⟨rfl, h4⟩
  · cases fin with
    | done f => exact q
    | again d => exact q
/-- the second clause's loop begins -/
theorem second_start {it acc : Value} {ka va t0 i0 t1 i1 : Expr} {cs0 cs1 : List Expr} {sc : Scope} {pos : Pos} {env : Env} {s : Shared}
    (hi : ∀ (Q E : Value → Shared → Prop), Q it s → wpAny (model P w) A (pyIter it) Q E s)
    (h : codeAny (model P w) A (.compLoop (.DictComp ka va [cls t0 i0 cs0, cls t1 i1 cs1] sc pos) 1 it acc env) R s) :
    codeAny (model P w) A (.compStart (.DictComp ka va [cls t0 i0 cs0, cls t1 i1 cs1] sc pos) 1 it acc env) R s := by
  refine codeAny_of_tree ?_
  show wpAny _ A ((compStart _ 1 it acc env).onRaise fun x => noteFrame x env >>= fun _ => standAt theWindowsPlace) _ _ s
  refine wpAny_notedAt ?_
  unfold compStart
  show wpAny _ A (ask >>= fun _ => _) _ _ s
  refine wpAny_bind (wpAny_askSetting (wpAny_ite (?_ : ite _ _ _)))
  split
  · exact wpAny_bind (wpAny_pure (wpAny_pure ⟨rfl, h⟩))
  · exact wpAny_bind (wpAny_rule (wpAny_bind (wpAny_standAt (wpAny_bind (hi _ _ (wpAny_pure ⟨rfl, h⟩))))))
end
/-! ### the readings -/
/-- a loop's round from W: it stops and S holds, or the next thing is stored, tried, and B (or, untried, Nx) comes -/
abbrev Round (J : It) (g : TG) (tt : TT) (σ : L2.St) (vs : List Nat) (S : Hp → Prop) (B : (Hp → Prop) → L2.St → Hp → Prop) (W : Nat → Nat → Hp → Prop) : Prop := ∀ (i m : Nat) (H : Hp), W i m H →
  (J.stop i H ∧ S H) ∨ (J.go i H ∧ ∃ Nx : Hp → Prop, (∀ H', Nx H' → ∃ m', m' < m ∧ W (i + 1) m' H') ∧ ∀ x H', J.yld i H x H' →
    g x (wipe σ vs) H' fun σ2 H2 => wipe σ2 vs = wipe σ vs ∧ tt σ2 H2 fun b H3 => if b = true then B Nx σ2 H3 else Nx H3)
/-- what is put into the dict at D -/
abbrev Put (D : Addr) (tk tv : TE) (Nx : Hp → Prop) (σ : L2.St) (H : Hp) : Prop :=
  tk σ H fun y H7 => tv σ H7 fun z H8 => ∃ kvs k, y = kV k ∧ H8 D = some (.dK kvs) ∧ kvs.length < sizeLine ∧ Nx (upd H8 D (.dK (putK kvs k z)))
/-- {k: v for tg in .. if .. for tg1 in .. if ..}: vs the block's names, vs1 those of the second target -/
def tDc2 (wi : TI) (g : TG) (tt : TT) (wi1 : TI) (g1 : TG) (tt1 : TT) (tk tv : TE) (vs vs1 : List Nat) : TE := fun σ H Q => wi σ H fun J H1 => ∀ D, H1 D = none →
  ∃ W : Nat → Nat → Hp → Prop, (∃ m, W 0 m (upd H1 D (.dK []))) ∧ Round J g tt σ vs (fun H => Q (.ref D) H)
    (fun Nx σ2 H3 => wi1 σ2 H3 fun J1 H4 => ∃ W1 : Nat → Nat → Hp → Prop, (∃ m, W1 0 m H4) ∧ Round J1 g1 tt1 σ2 vs1 Nx (Put D tk tv) W1) W
/-- σ' knows what σ knows -/
def Knows (σ σ' : L2.St) : Prop := σ.length = σ'.length ∧ ∀ (j : Nat) v, σ[j]? = some (some v) → σ'[j]? = some (some v)
theorem Knows.wiped {σ σ2 : L2.St} {vs vs1 : List Nat} (e : wipe σ2 vs = wipe σ vs) (sub : ∀ i ∈ vs1, i ∈ vs) : Knows (wipe σ vs) (wipe σ2 vs1) := by
  constructor
  · rw [← e, wipe_length, wipe_length]
  · intro j v h
    rw [← e] at h
    obtain ⟨there, out⟩ := wipe_some h
    rw [wipe_out (fun z => out (sub j z)), there]
theorem Knows.stored {σ σ2 : L2.St} {vs : List Nat} (e : wipe σ2 vs = wipe σ vs) : Knows (wipe σ vs) σ2 :=
  ⟨by rw [← e, wipe_length], fun j v h => by rw [← e] at h; exact (wipe_some h).1⟩
theorem Knows.trans {σ1 σ2 σ3 : L2.St} (a : Knows σ1 σ2) (b : Knows σ2 σ3) : Knows σ1 σ3 := ⟨a.1.trans b.1, fun j v h => b.2 j v (a.2 j v h)⟩
/-! ### a clause's loop in its block -/
section
variable {Y : Cx} {pins : List (Addr × Obj)}
theorem clause_run (hc : Y.calm = true) (hx : Y.xe = Never) {tg : Expr} {cs : List Expr} {g : TG} {tt : TT} {J : It} {fp : List Addr} {it : Addr} {tn : Nat → Heap → Prop} (T : Turn Y.prog Y.w Y.K tg J fp it tn) (pg : PG Y tg g) (pt : PTs Y cs tt)
    {σ : L2.St} {vs : List Nat} {c : Code} {at_ : Pos} {more : Sem Fin} {R : Result → Shared → Prop} (hq : c.quiet = true) (hu : Y.A.under c = Y.A)
    (hd : (model Y.prog Y.w).den c = (oneTurn at_ tg cs (.ref it) Y.env c more).onRaise fun x => noteFrame x Y.env >>= fun _ => theTreesLotGoes x)
    (fr : ∀ {σ' : L2.St} {H' : Hp} {s' : Shared}, Inv Y pins σ' H' s' → (∀ b ∈ fp, H' b = none) → ∀ b ∈ fp, FpOk Y pins H' b)
    {S : Hp → Prop} {B : (Hp → Prop) → L2.St → Hp → Prop} {W : Nat → Nat → Hp → Prop} (round : Round J g tt σ vs S B W)
    (hS : ∀ H s, S H → Inv Y pins (wipe σ vs) H s → R (.ok .next) s)
    (hB : ∀ (Nx : Hp → Prop) (pl : List (Addr × Obj)) (σ2 : L2.St) (H2 : Hp) (s2 : Shared) (Z : Shared → Prop), wipe σ2 vs = wipe σ vs → Inv Y (pins ++ pl) σ2 H2 s2 → B Nx σ2 H2 →
      (∀ (σ' : L2.St) (H' : Hp) (s' : Shared), Knows (wipe σ vs) σ' → Inv Y (pins ++ pl) σ' H' s' → Nx H' → Z s') → wpAny (model Y.prog Y.w) Y.A more (Back c R Z) Never s2)
    {m : Nat} {H : Hp} {s : Shared} (I : Inv Y pins (wipe σ vs) H s) (st : tn 0 s.heap) (fn : ∀ b ∈ fp, H b = none) (w0 : W 0 m H) : codeAny (model Y.prog Y.w) Y.A c R s := by
  refine loop_of hq hu hd (fun n s' => ∃ i H', Inv Y pins (wipe σ vs) H' s' ∧ tn i s'.heap ∧ (∀ b ∈ fp, H' b = none) ∧ W i n H') ?_ ⟨0, H, I, st, fn, w0⟩
  rintro n s1 ⟨i, H1, I1, st1, fn1, w1⟩
  rcases round i n H1 w1 with ⟨halt, ends⟩ | ⟨goes, Nx, less, step⟩
  · refine thn (T.done Y rfl rfl rfl hc i pins s1 _ H1 Never I1 (fr I1 fn1) st1 halt) ?_
    rintro r s2 ⟨rfl, I2⟩
    exact hS H1 s2 ends I2
  · refine thn (T.item Y rfl rfl rfl hc i pins s1 _ H1 Never I1 (fr I1 fn1) st1 goes) ?_
    rintro r s2 ⟨u, rfl, next⟩
    refine thn next ?_
    rintro _ s3 ⟨x, H3, I3, rx, y3, st3, fn3⟩
    have J3 := I3.pinned (fr I3 fn3) (T.obj _ _ st3)
    -- from any slots that know what was known, the loop stands again
    have back : ∀ (σ' : L2.St) (H' : Hp) (s' : Shared), Knows (wipe σ vs) σ' → Inv Y (pins ++ pinsAt fp s3.heap) σ' H' s' → Nx H' →
        ∃ k, k < n ∧ ∃ i H', Inv Y pins (wipe σ vs) H' s' ∧ tn i s'.heap ∧ (∀ b ∈ fp, H' b = none) ∧ W i k H' := by
      intro σ' H' s' kn I' nx
      obtain ⟨k, lt, wk⟩ := less H' nx
      have kept : ∀ b ∈ fp, (∀ o, s3.heap.get? b = some o → s'.heap.get? b = some o) ∧ H' b = none := by
        intro b hb
        obtain ⟨o, ho, _⟩ := T.obj _ _ st3 b hb
        have p := I'.pin (b, o) (by simp [mem_pinsAt hb ho])
        refine ⟨fun o' ho' => ?_, p.2.1⟩
        cases ho.symm.trans ho'
        exact p.1
      exact ⟨k, lt, i + 1, H', I'.unpinned.weak kn.1 kn.2, T.keep _ _ _ st3 fun b hb => (kept b hb).1, fun b hb => (kept b hb).2, wk⟩
    have a3 := pg.run _ s3 _ H3 x u _ J3 rx (step x H3 y3)
    rw [hx] at a3
    refine thn a3 ?_
    rintro _ s4 ⟨σ4, H4, I4, e4, q4⟩
    have a4 := pt.run _ s4 σ4 H4 _ I4 q4
    rw [hx] at a4
    refine thn a4 ?_
    rintro ok s5 ⟨H5, I5, q5⟩
    cases ok with
    | false => exact back σ4 H5 s5 (.stored e4) I5 q5
    | true => exact hB Nx _ σ4 H5 s5 _ e4 I5 q5 back
end
/-! ### the whole of it -/
/-- so in the block, wherever that lies -/
abbrev InBlock (X : Cx) (sc : Scope) (p : Cx → Prop) : Prop := ∀ (s : Shared) (H : Hp) (C : Addr) (cl : List (Str × Addr)) (fp : List Addr), p (X.blk s H sc (compEnvC sc cl C X.env) fp)
section
variable {X : Cx} {kx vx tg iter tg1 iter1 : Expr} {cs cs1 : List Expr} {sc : Scope} {own : List (Str × Nat)} {vs1 : List Nat} {pos : Pos} {wi wi1 : TI} {g g1 : TG} {tt tt1 : TT} {tk tv : TE}
theorem pe_dc2 (hc : X.calm = true) (hN : X.N.Nodup) (hi : PI X tg iter wi) (ok : BlkOk X.N X.env.scope sc own) (hv : ∀ i ∈ vs1, i ∈ own.map (·.2)) (hg : InBlock X sc (PG · tg g)) (ht : InBlock X sc (PTs · cs tt)) (hi1 : InBlock X sc (PI · tg1 iter1 wi1))
    (hg1 : InBlock X sc (PG · tg1 g1)) (ht1 : InBlock X sc (PTs · cs1 tt1)) (hk : InBlock X sc (PE · kx tk)) (he : InBlock X sc (PE · vx tv)) (hs : ∀ x, foldedSetIterable iter X.env x = pure x := by intro _; rfl) (hs1 : ∀ env x, foldedSetIterable iter1 env x = pure x := by intro _ _; rfl) :
    PE X (.DictComp kx vx [cls tg iter cs, cls tg1 iter1 cs1] sc pos) (tDc2 wi g tt wi1 g1 tt1 tk tv (own.map (·.2)) vs1) := by
  refine ⟨fun pins s σ H Q I h => ?_⟩
  rw [arm_eval_DictComp]
  have cells : ∀ y ∈ sc.names, y.2 = .free → ∃ c, X.env.cells.lookup y.1 = some c := fun y hy e => (ok.free y hy e).elim (fun z => I.ok.has _ (.inl z)) fun z => I.ok.has _ (.inr z)
  refine wpAny_comprehension_free (use := none) rfl hs (closure_ok cells) ok.kind (fun y hy e => e ▸ ok.uniq y hy) (thn (hi.run pins s σ H _ I h) fun _ s1 h1 => thn h1 ?_)
  rintro _ s2 ⟨it, fp, tn, J, H2, rfl, I2, T, st2, f2, h2⟩
  refine wpAny_newObj_type (newEnv_comp (?_ : codeAny _ _ _ _ _))
  obtain ⟨W, ⟨m0, w0⟩, round⟩ := h2 s2.heap.objs.size (I2.hok.fresh (Nat.le_refl _))
  -- the dict lies at the heap's end
  have low : ∀ b ∈ fp, b < s2.heap.objs.size := fun b hb => (T.obj _ _ st2 b hb).elim fun _ e => Heap.lt_size e.1
  have I3 : Inv X pins σ (upd H2 s2.heap.objs.size (.dK [])) { s2 with heap := s2.heap.push { cls := .type "dict", data := .dict #[] } } :=
    I2.laid (t' := s2.toks) (fun _ _ e => Heap.get?_push_of_some _ e) (Nat.le_refl _) (dk_empty s2.heap I2.big)
  have st3 : tn 0 (s2.heap.push { cls := .type "dict", data := .dict #[] }) := T.keep _ _ _ st2 fun _ _ _ e => Heap.get?_push_of_some _ e
  have f3 : ∀ b ∈ fp, FpOk X pins (upd H2 s2.heap.objs.size (.dK [])) b ∧ b < (s2.heap.push { cls := .type "dict", data := .dict #[] }).objs.size := by
    intro b hb
    have lt := low b hb
    have fb := f2 b hb
    exact ⟨⟨by rw [upd_ne (Nat.ne_of_lt lt), fb.1], fb.2⟩, by rw [Heap.size_push]; exact Nat.lt_succ_of_lt lt⟩
  obtain ⟨D, hD⟩ : ∃ D, s2.heap.objs.size = D := ⟨_, rfl⟩
  rw [hD] at w0 round I3 f3 ⊢
  obtain ⟨s3, hs3⟩ : ∃ s3 : Shared, s3 = { s2 with heap := s2.heap.push { cls := .type "dict", data := .dict #[] } } := ⟨_, rfl⟩
  obtain ⟨H3, hH3⟩ : ∃ H3, upd H2 D (.dK []) = H3 := ⟨_, rfl⟩
  rw [hH3] at w0 I3 f3
  rw [show s2.heap.push { cls := .type "dict", data := .dict #[] } = s3.heap by rw [hs3]] at st3 f3
  rw [← hs3] at I3
  have Ib := block_start I3 ok hN f3
  have st4 : tn 0 (pushCells (s3.heap.push { cls := .type "dict", data := .dict #[] }) sc.names) := T.keep _ _ _ st3 fun _ _ _ e => pushCells_keeps _ _ _ _ (Heap.get?_push_of_some _ e)
  have fn := fun b hb => (f3 b hb).1.1
  have outer : codeAny (model X.prog X.w) X.A (.compLoop (.DictComp kx vx [cls tg iter cs, cls tg1 iter1 cs1] sc pos) 0 (.ref it) (.ref D) (compEnvC sc (cellsFrom (s3.heap.objs.size + 1) sc.names (cloFrom X.env.cells sc.names [])) s3.heap.objs.size X.env))
      (compPost (model X.prog X.w) X.A X.xe none (EP X pins σ Q) (.ref D) s3.heap.objs.size) { s3 with heap := pushCells (s3.heap.push { cls := .type "dict", data := .dict #[] }) sc.names } := by
    refine clause_run (Y := X.blk s3 H3 sc (compEnvC sc (cellsFrom (s3.heap.objs.size + 1) sc.names (cloFrom X.env.cells sc.names [])) s3.heap.objs.size X.env) fp) (pins := []) hc rfl T (hg s3 H3 _ _ fp) (ht s3 H3 _ _ fp) (at_ := iter.pos)
      (more := eval iter1 _ >>= fun x => standAt iter1.pos >>= fun _ => foldedSetIterable iter1 _ x >>= fun y => holding [y] (pyIter y) >>= fun z => runOwn (.compStart (.DictComp kx vx [cls tg iter cs, cls tg1 iter1 cs1] sc pos) 1 z (.ref D) _) _ >>= fun _ => again _) rfl rfl rfl
      (fun I' fn' b hb => ⟨fn' b hb, (I'.ok.exf b hb).1, I'.ok.exfs b hb, .inl hb, (I'.ok.exf b hb).2, fun p hp => by cases hp⟩) round ?_ ?_ Ib st4 fn w0
    · -- the source ends: the dict stands, in the def's own slots
      intro H' s' hq I'
      have I7 : Inv X pins σ H' s' := I3.call' (ch := fp) I'.os I'.base I'.hok I'.bare fun b hb => by
        obtain ⟨_, b1, b2, b3, b4, b5⟩ := (f3 b hb).1
        exact ⟨b3, b1, b4, b5⟩
      obtain ⟨k, hk, _⟩ := I'.loc
      obtain ⟨c0, c1, c2, c3, c4, c5⟩ := I3.fpOk (Nat.le_refl _) I'.free
      exact ⟨k, hk, fun h' sb => ⟨.ref D, H', I7.turned (t' := s'.toks) (fun b o ne e => (sb.2 b ne).trans e) c0 c1 c3 c4 c5, rfl, hq⟩⟩
    · -- the second clause
      intro Nx pl σ4 H4 s4 Z e4 J4 q4 back
      refine wpAny_bind (thn ((hi1 s3 H3 _ _ fp).run _ s4 σ4 H4 _ J4 q4) fun x s5 h5 => ?_)
      refine wpAny_bind (wpAny_standAt (wpAny_bind (wpAny_of_eq (hs1 _ x) (wpAny_bind (wpAny_holding (thn h5 ?_))))))
      rintro _ s6 ⟨it1, fp1, tn1, J1, H6, rfl, I6, T1, st6, f6, W1, ⟨m1, w1⟩, round1⟩
      refine wpAny_bind (wpAny_runOwn (?_ : codeAny _ _ _ _ _))
      rw [Around.mark_none]
      refine codeAny_mono (R := fun r s' => match r with | .ok _ => Z s' | .error _ => False) ?_ fun r s' hr => ?_
      · refine second_start (fun Q' E' hq' => T1.self _ 0 _ _ _ st6 hq') ?_
        refine clause_run (Y := X.blk s3 H3 sc (compEnvC sc (cellsFrom (s3.heap.objs.size + 1) sc.names (cloFrom X.env.cells sc.names [])) s3.heap.objs.size X.env) fp) (pins := [] ++ pl) hc rfl T1 (hg1 s3 H3 _ _ fp) (ht1 s3 H3 _ _ fp) (at_ := iter1.pos)
          (more := (eval kx _ >>= fun a => holding [a] (eval vx _) >>= fun b => standAt { kx.pos with endLine := vx.pos.endLine, endCol := vx.pos.endCol } >>= fun _ => holding [a, b] (dictSet D a b)) >>= fun _ => again _) rfl rfl rfl
          (fun _ fn' b hb => ⟨fn' b hb, (f6 b hb).2⟩) round1 (fun H' s' nx I' => back _ H' s' (.wiped e4 hv) I' nx) ?_ (I6.weak (wipe_length _ _) fun j v e => (wipe_some e).1) st6 (fun b hb => (f6 b hb).1) w1
        intro Nx1 pl1 σ7 H7 s7 Z1 e7 J7 q7 back1
        refine wpAny_bind (wpAny_bind (thn ((hk s3 H3 _ _ fp).run _ s7 σ7 H7 _ J7 q7) ?_))
        rintro a s8 ⟨y, H8, I8, r8, q8⟩
        refine wpAny_bind (wpAny_holding (thn ((he s3 H3 _ _ fp).run _ s8 σ7 H8 _ I8 q8) ?_))
        rintro b s9 ⟨z, H9, I9, r9, kvs, k, rfl, d9, z9, nx⟩
        exact wpAny_bind (wpAny_standAt (wpAny_holding (d_dictSet I9 d9 z9 r8 r9 fun s' I' => wpAny_pure ⟨rfl, back1 σ7 _ s' (.stored e7) I' nx⟩)))
      · cases r with
        | ok f => exact wpAny_pure ⟨rfl, hr⟩
        | error e => exact hr.elim
  rw [hs3] at outer st4
  exact codeAny_compStart_dict outer (T.self X.A 0 _ _ _ st4 outer)
end
end Nv

/-! reached_of. -/
namespace Nv
open PySem L2
abbrev sReached : Stmt := top 18
def spReached (C : Addr) : Sp := fun vs H Q _ => ∃ (p : Addr) (n : Int) (es : List Ev), vs = [.ref p] ∧ MachAt C H p n es ∧ OkParts n es ∧
  ∀ (H' : Hp) (a : Addr) (ks : List Int), Same H H' → H a = none → H' a = some (.tup (vI ks)) → ks.Nodup → (∀ v, v ∈ ks ↔ Reach es 0 v) → Q (.ref a) H'
theorem upto_succ {i : Nat} : upto (i + 1) = upto i ++ [(i : Int)] := by unfold upto; rw [List.range_succ, List.map_append]; rfl
theorem dset_keys {ks : List Int} : (dset ks).map (·.1) = ks.map Sum.inl := by unfold dset; rw [List.map_map]; rfl
theorem dset_snoc {ks : List Int} {k : Int} (h : ¬ k ∈ ks) : putK (dset ks) (Sum.inl k) (V.bl true) = dset (ks ++ [k]) := dset_put h
section
variable {P : Program} {w : World} {K : PySem.W.Frag} {mg : Str → Option Value} {base : Heap} {C : Addr}
theorem scReached : FnScope ["machine", "standing"] ["machine"] (defScope sReached) := ⟨rfl, rfl, rfl, by decide +kernel, rfl, by decide +kernel, by decide +kernel⟩
theorem c_reached (T : Txt mg) (M : TxtM K mg C) (cF : Cal P w K mg base 2 "flooded" ["machine", "start", "inner"] (spFlooded C)) (D : DefOf K mg "reached_of" sReached ["machine"]) :
    Cal P w K mg base 3 "reached_of" ["machine"] (spReached C) := by
  refine D.cal fun f fd F => F.ok scReached (fun vs H Q E h => ?_) (fun cdv A outer s H vs Q E hr h => ?_)
  · obtain ⟨p, n, es, rfl, _⟩ := h
    rfl
  · obtain ⟨p, n, es, rfl, hM, ok, k⟩ := h
    have n1 := ok.n1
    have n4 := ok.n4
    obtain ⟨dx, ea, la, ls, h1, h2, h3, h4, h5⟩ := hM.ex
    refine ⟨_, pss_one (ps_ret (pe_callTy call_tuple_of (by rfl) T.tuple (by decide +kernel) (pa_cons (pe_callB (call_sortedDI rfl) (by rfl) T.sorted (by decide +kernel) (pa_cons
      (pcal cF hr (pa_cons (pv 0) (pa_cons pe_int (pa_cons
        (pe_dc (own := [("standing", 1)]) (g := gName 1) (tt := tYes) rfl scReached.nd (pi_range1 rfl T.range (pa_cons (pe_fld (pv 0) rfl) pa_nil))
          (blkOk_by (own := [("standing", 1)]) (N := ["machine", "standing"]) (sc := defScope sReached) (by decide +kernel)) (fun _ _ _ _ _ => pg_name (i := 1) scReached.nd rfl (.inl rfl)) (fun _ _ _ _ _ => pts_nil) (fun _ _ _ _ _ => pv 1) (fun _ _ _ _ _ => pe_bl)) pa_nil)))) pa_nil)) pa_nil))), ?_⟩
    refine ⟨_, rfl, _, rfl, p, C, dx, _, _, rfl, h1, M.cl, M.nS, mf_s _ _ _, n, rfl, by omega, by omega, fun d hd => drive walk_range (fun i H' => H' d = some (.dK (dset (upto i))) ∧ Same H H')
      ⟨upd_same, same_new (Same.refl _) hd⟩ (fun _ _ _ _ => trivial) ?_ ?_⟩
    · rintro i x H1 H2 hi ⟨e1, sm⟩ ⟨rfl, rfl⟩
      refine ⟨rfl, _, rfl, dset (upto i), Sum.inl (0 + (i : Int)), rfl, e1, small1000 (by rw [dset_len]; unfold upto; rw [List.length_map, List.length_range]; omega), ?_, same_upd sm hd⟩
      have e0 : (0 : Int) + (i : Int) = (i : Int) := by omega
      rw [upd_same, e0, dset_put (fun q => by have := (mem_upto.mp q).2; omega), upto_succ]
    · rintro H1 ⟨e1, sm⟩
      refine ⟨p, d, 0, n, es, _, rfl, hM.same sm, ok, Int.le_refl _, by omega, .inl e1, fun v r => ?_, fun H2 a ks sm2 na ha nd hks => ?_⟩
      · have := reach_in ok (Int.le_refl _) (by omega) r
        rw [valV_dset, if_pos (mem_upto.mpr ⟨this.1, by omega⟩)]
        rfl
      · have hln : ks.length ≤ n.toNat := nodup_ints_len nd fun v hv => reach_in ok (Int.le_refl _) (by omega) ((hks v).mp hv)
        refine ⟨a, _, ks, rfl, .inl ha, dset_keys, by omega, fun ys q pm asc nq => ⟨q, _, rfl, .inl ⟨SqL.of upd_same, fun l nl => ?_⟩⟩⟩
        have sm3 : Same H (upd H2 q (.lst (ys.map V.int))) := same_new (sm.trans sm2) nq
        exact k _ l ys (same_new sm3 nl) (sm3.free nl) upd_same (pm.nodup_iff.mpr nd) fun v => (pm.mem_iff).trans (hks v)
end
end Nv

/-! sorted(d) of a dict whose keys are tuples of ints, no two with the same first one. -/
namespace L2
open PySem PySem.Spec PyProof.Rows
section
variable {prog : Program} {w : World} {A : Around} {E : Value → Shared → Prop} {s : Shared}
/-- a row of ints is not less than itself -/
theorem lexSelf {b : Bool} {Q : Bool → Shared → Prop} {xs : List Value} {ns : List Int} (x : IntsAre xs ns) (q : Q false s) : ∀ i, PySem.W.KatLex prog w A b false Q (xs.zip xs) i s := by
  induction x with
  | nil => exact fun i => PySem.W.kat_nil q
  | cons n t _ ih =>
    intro i
    refine PySem.W.kat_cons (wpAny_eqBool_int (?_ : _))
    rw [beq_self_eq_true]
    exact PySem.W.kat_yes (ih (i + 1))
/-- tuples of ints, not empty, each told by its first one -/
structure Firsts (h : Heap) (vs : List Value) (f : Value → Int) : Prop where
  row : ∀ v ∈ vs, ∃ (n : Int) (ns : List Int), TS.TupInts h v (n :: ns) ∧ f v = n
  one : ∀ u ∈ vs, ∀ v ∈ vs, f u = f v → u = v
theorem Firsts.keep {h h' : Heap} {vs : List Value} {f : Value → Int} (x : Firsts h vs f) (k : ∀ b o, h.get? b = some o → o.cls = .type "tuple" → h'.get? b = some o) : Firsts h' vs f :=
  ⟨fun v hv => let ⟨n, ns, t, e⟩ := x.row v hv; ⟨n, ns, t.keeps k, e⟩, x.one⟩
/-- a tuple's object, its first item apart -/
theorem tupFirst {h : Heap} {v : Value} {n : Int} {ns : List Int} (t : TS.TupInts h v (n :: ns)) :
    ∃ (a : Addr) (o : Obj) (xs : Array Value) (k : Nat) (tk : Tok) (r : List Value), v = .ref a ∧ h.get? a = some o ∧ o.cls = .type "tuple" ∧ o.data = .seq xs k ∧ xs.toList = Value.int n tk :: r ∧ IntsAre r ns := by
  obtain ⟨a, xs, ev, ⟨o, ho, hc, k, hd⟩, i⟩ := t
  generalize el : xs.toList = l at i
  cases i with
  | cons _ tk i' => exact ⟨a, o, xs, k, tk, _, ev, ho, hc, hd, el, i'⟩
theorem katFirsts {h : Heap} {f : Value → Int} : ∀ vs : List Value, (∀ v ∈ vs, ∃ (n : Int) (ns : List Int), TS.TupInts h v (n :: ns) ∧ f v = n) → ∃ fs, PySem.W.KatTups h vs fs ∧ fs.length = vs.length ∧ ∀ x ∈ fs, ∃ n t, x = Value.int n t
  | [], _ => ⟨[], PySem.W.KatTups.nil, rfl, fun x hx => by cases hx⟩
  | v :: r, hv => by
    obtain ⟨fs, k1, k2, k3⟩ := katFirsts r fun u hu => hv u (List.mem_cons_of_mem v hu)
    obtain ⟨n, ns, t, _⟩ := hv v List.mem_cons_self
    obtain ⟨a, o, xs, k, tk, l, rfl, ho, hc, hd, hl, _⟩ := tupFirst t
    have h0 : xs[0]? = some (Value.int n tk) := by rw [← Array.getElem?_toList, hl]; rfl
    exact ⟨Value.int n tk :: fs, PySem.W.KatTups.cons ho hc hd h0 k1, congrArg (· + 1) k2, fun x hx => (List.mem_cons.mp hx).elim (fun e => ⟨n, tk, e⟩) (k3 x)⟩
theorem kindFirsts {vs : List Value} {f : Value → Int} (h2 : 2 ≤ vs.length) (x : Firsts s.heap vs f) (Q : SortKind → Shared → Prop) (h : ∀ κ, TS.Cmp prog w A s κ (pairsOf vs) f → Q κ s) :
    wpAny (model prog w) A (keyKind' vs.toArray) Q E s := by
  obtain ⟨fs, k1, k2, k3⟩ := katFirsts vs x.row
  refine PySem.W.kat_kind (T := Value.type "int") k1 (by omega) (fun y hy => ?_) rfl (h _ fun p q hp hq R E' hR => ?_)
  · obtain ⟨n, t, rfl⟩ := k3 y hy
    exact .of_pure rfl
  · rw [pairsOf_toList] at hp hq
    have m1 := (mem_zip_self hp).2
    have m2 := (mem_zip_self hq).2
    obtain ⟨n, ns, t1, f1⟩ := x.row _ m1
    obtain ⟨m, ms, t2, f2⟩ := x.row _ m2
    obtain ⟨a, o, xs, c, tk, l, e1, ho, hc, hd, hl, il⟩ := tupFirst t1
    obtain ⟨a', o', xs', c', tk', l', e2, ho', hc', hd', hl', il'⟩ := tupFirst t2
    rw [f1, f2] at hR
    rw [e1, e2]
    refine PySem.W.kat_lt ho hd ho' hd' (?_ : _)
    by_cases e : n = m
    · subst e
      have ea : Value.ref a = Value.ref a' := by rw [← e1, ← e2]; exact x.one _ m1 _ m2 (f1.trans f2.symm)
      cases ea
      rw [ho] at ho'
      cases ho'
      rw [hd] at hd'
      cases hd'
      have d0 : decide (n < n) = false := decide_eq_false (Int.lt_irrefl n)
      rw [d0] at hR
      rw [show decide (xs.size < xs.size) = false from decide_eq_false (Nat.lt_irrefl _), hl]
      exact lexSelf (.cons n tk il) hR 0
    · rw [hl, hl']
      refine PySem.W.kat_cons (wpAny_eqBool_int (?_ : _))
      rw [show (n == m) = false from beq_eq_false_iff_ne.mpr e]
      exact PySem.W.kat_no (TS.oneLt_ints _ hR)
end

/-! ### the dict's keys, collected and sorted -/
def kI (q : List Int) : List Key := q.map Sum.inl
theorem kI_vals (q : List Int) : (kI q).map kV = q.map V.int := by unfold kI; rw [List.map_map]; rfl
/-- the tuples of ints of a dict, as they come out -/
def rowAt (H : Hp) (a : Addr) : List Int := match H a with
  | some (.tup xs) => xs.map fun x => match x with | .int i => i | _ => 0
  | _ => []
theorem rowAt_of {H : Hp} {a : Addr} {q : List Int} (h : H a = some (.tup (q.map V.int))) : rowAt H a = q := by
  unfold rowAt
  rw [h]
  show (q.map V.int).map _ = q
  rw [List.map_map]
  exact List.map_id' q
def adOf : Value → Addr
  | .ref a => a
  | _ => 0
theorem valsRefsN : ∀ l : List Addr, Vals (l.map V.ref) (l.map Value.ref)
  | [] => .nil
  | a :: r => .cons (show Value.ref a = Value.ref a from rfl) (valsRefsN r)
theorem intsAreN : ∀ {q : List Int} {us : List Value}, Vals (q.map V.int) us → IntsAre us q
  | [], _, h => by cases h; exact .nil
  | i :: q, _, h => by
    cases h with
    | cons a b =>
      obtain ⟨t, rfl⟩ := a
      exact .cons i t (intsAreN b)
/-- a key tuple of a dict with tuple keys: at its address stand the ints -/
theorem keyAt : ∀ {H : Hp} {kvs : List (List Key × V)} {xs : List (List Key × Addr × Value)}, KT H kvs xs → ∀ {kns : List (List Int)}, kvs.map (·.1) = kns.map kI →
    (xs.map fun x => rowAt H x.2.1) = kns ∧ ∀ x ∈ xs, H x.2.1 = some (.tup ((rowAt H x.2.1).map V.int))
  | H, _, _, .nil, kns, e => by
    cases kns with
    | nil => exact ⟨rfl, fun x hx => by cases hx⟩
    | cons _ _ => cases e
  | H, _, _, .cons (a := a) (b := b) h t, kns, e => by
    cases kns with
    | nil => cases e
    | cons q kns =>
      injection e with e1 e2
      have e3 : a.1 = kI q := e1
      have hb : H b.2.1 = some (.tup (q.map V.int)) := by rw [h.2.1, e3, kI_vals]
      obtain ⟨i1, i2⟩ := keyAt t e2
      refine ⟨?_, fun x hx => ?_⟩
      · rw [List.map_cons, i1, rowAt_of hb]
      · rcases List.mem_cons.1 hx with rfl | hx
        · rw [rowAt_of hb]; exact hb
        · exact i2 x hx
/-- sorted(d): each key's ints, in some order -/
def rSortTK : List V → Hp → VK → Prop := fun vs H Q => ∃ (d : Addr) (kvs : List (List Key × V)) (kns : List (List Int)), vs = [.ref d] ∧ H d = some (.dT kvs) ∧ kvs.map (·.1) = kns.map kI ∧ kns.length < 64 ∧
  (∀ q ∈ kns, q ≠ []) ∧ (kns.map fun q => q.headD 0).Nodup ∧
  ∀ (as : List Addr) (p : Addr), (as.map (rowAt H)).Perm kns → (∀ a ∈ as, H a = some (.tup ((rowAt H a).map V.int))) → H p = none → Q (.ref p) (upd H p (.lst (as.map V.ref)))
theorem injNodupN {α β : Type} {f : α → β} : ∀ {l : List α}, (l.map f).Nodup → ∀ {x y : α}, x ∈ l → y ∈ l → f x = f y → x = y
  | [], _, x, y, hx, _, _ => by cases hx
  | a :: l, h, x, y, hx, hy, e => by
    obtain ⟨n1, n2⟩ := List.nodup_cons.mp (show (f a :: l.map f).Nodup from h)
    rcases List.mem_cons.1 hx with ex | mx
    · rcases List.mem_cons.1 hy with ey | my
      · rw [ex, ey]
      · exact absurd (List.mem_map.mpr ⟨y, my, by rw [← e, ex]⟩) n1
    · rcases List.mem_cons.1 hy with ey | my
      · exact absurd (List.mem_map.mpr ⟨x, mx, by rw [e, ey]⟩) n1
      · exact injNodupN n2 mx my e
theorem headDInjN {l : List (List Int)} (h : (l.map fun q => q.headD 0).Nodup) {p q : List Int} (hp : p ∈ l) (hq : q ∈ l) (e : p.headD 0 = q.headD 0) : p = q :=
  injNodupN (f := fun q : List Int => q.headD 0) h hp hq e
theorem nodupMapN {α β : Type} (f : α → β) : ∀ {l : List α}, (l.map f).Nodup → l.Nodup
  | [], _ => List.nodup_nil
  | a :: l, h => by
    obtain ⟨n1, n2⟩ := List.nodup_cons.mp (show (f a :: l.map f).Nodup from h)
    exact List.nodup_cons.mpr ⟨fun m => n1 (List.mem_map_of_mem m), nodupMapN f n2⟩
theorem cr_sortTK {X : Cx} (hc : X.calm = true) : CallR X (.builtin "sorted") rSortTK := by
  rintro pins s σ H vs us Q I r ⟨d, kvs, kns, rfl, hd, hk, h64, hne, hnd, q⟩
  obtain ⟨_, rfl, rfl⟩ := vals1 r
  obtain ⟨z, hs, xs, pr, o, es, ep, ho, hx, hdt, he, hn⟩ := (show ObjOk X.prog X.w H s.heap d (.dT kvs) from I.hok d _ hd)
  obtain ⟨row1, row2⟩ := keyAt pr hk
  have lx : xs.length = kns.length := by rw [← row1, List.length_map]
  have le : es.size = kns.length := (size_of_entries he).trans lx
  have small : ∀ {n : Nat}, n = kns.length → n ≤ sizeLine := fun {n} e => by rw [sizeLine_eq, e]; omega
  refine Calls.call_function_entry kind_sorted plain_sorted entry_sorted (args_sorted1 _) (?_ : wpAny _ _ (Builtin.«sorted» _) _ _ _)
  unfold Builtin.«sorted»
  refine wpAny_bind (m := checkCount "sorted" 1 1 _) (wpAny_pure (wpAny_bind (PySem.W.kdu_collect (A := X.A.in1) (kdl_raw hs hx hdt) (I.ok.hd hc) ho (small le) fun h1 tk acc kp it => ?_)))
  -- what was collected: the addresses of the key tuples
  have hacc : acc.toList = (xs.map fun x => x.2.1).map Value.ref := by
    apply List.ext_getElem?
    intro j
    rw [List.map_map, List.getElem?_map]
    cases ej : xs[j]? with
    | none => exact List.getElem?_eq_none (by have := List.getElem?_eq_none_iff.mp ej; rw [Array.length_toList, it.1]; omega)
    | some x =>
      have hj : j < acc.toList.length := by have := (List.getElem?_eq_some_iff.mp ej).1; rw [Array.length_toList, it.1]; omega
      have ea : acc[j]? = some acc.toList[j] := by rw [← Array.getElem?_toList]; exact List.getElem?_eq_getElem hj
      obtain ⟨en, e1, e2⟩ := it.2 j _ ea
      rw [entry_at he j, ej] at e1
      cases e1
      rw [List.getElem?_eq_getElem hj, e2]
      rfl
  have lacc : acc.toList.length = kns.length := by rw [hacc, List.length_map, List.length_map, lx]
  have I1 : Inv X pins σ H { s with heap := h1, toks := tk } := I.kept kp
  -- the keys, in the heap: rows of ints told by their first ones
  have tup : ∀ {hh : Heap}, HOk X.prog X.w H hh → ∀ v ∈ acc.toList, ∃ a, v = Value.ref a ∧ H a = some (.tup ((rowAt H a).map V.int)) ∧ rowAt H a ∈ kns ∧ TS.TupInts hh v (rowAt H a) := fun {hh} ok v hv => by
    rw [hacc, List.map_map] at hv
    obtain ⟨x, hx', rfl⟩ := List.mem_map.mp hv
    have ha := row2 x hx'
    obtain ⟨_, its, rv, tp⟩ := (show ObjOk X.prog X.w H hh x.2.1 (.tup ((rowAt H x.2.1).map V.int)) from ok _ _ ha)
    exact ⟨x.2.1, rfl, ha, by rw [← row1]; exact List.mem_map.mpr ⟨x, hx', rfl⟩, x.2.1, its.toArray, rfl, tp, intsAreN rv⟩
  have firsts : ∀ {hh : Heap}, HOk X.prog X.w H hh → Firsts hh acc.toList fun v => (rowAt H (adOf v)).headD 0 := fun {hh} ok => by
    refine ⟨fun v hv => ?_, fun u hu v hv e => ?_⟩
    · obtain ⟨a, rfl, ha, hm, t⟩ := tup ok v hv
      cases er : rowAt H a with
      | nil => exact absurd er (hne _ hm)
      | cons n ns => rw [er] at t; exact ⟨n, ns, t, by show (rowAt H a).headD 0 = n; rw [er]; rfl⟩
    · obtain ⟨a, rfl, ha, ma, _⟩ := tup ok u hu
      obtain ⟨b, rfl, hb, mb, _⟩ := tup ok v hv
      have eab : rowAt H a = rowAt H b := headDInjN hnd ma mb e
      -- two keys with the same ints are one key
      rw [hacc, List.map_map] at hu hv
      obtain ⟨x, hx1, ex⟩ := List.mem_map.mp hu
      obtain ⟨y, hy1, ey⟩ := List.mem_map.mp hv
      cases ex
      cases ey
      have hxy : x = y := by
        have nd : (xs.map fun x => rowAt H x.2.1).Nodup := by rw [row1]; exact nodupMapN (fun q : List Int => q.headD 0) hnd
        exact injNodupN nd hx1 hy1 eab
      rw [hxy]
  refine wpAny_bind (wpAny_newList ?_ (small lacc))
  show wpAny _ _ _ _ _ { s with heap := h1.push (seqObj "list" acc.toList.toArray 0), toks := tk }
  have hL : (h1.push (seqObj "list" acc.toList.toArray 0)).get? h1.objs.size = some (seqObj "list" acc.toList.toArray 0) := Heap.get?_push_size _ rfl
  have ok2 : HOk X.prog X.w H (h1.push (seqObj "list" acc.toList.toArray 0)) := I1.hok.kept fun b u e => Heap.get?_push_of_some _ e
  have nL : H h1.objs.size = none := I1.hok.fresh (Nat.le_refl _)
  have f0 := firsts ok2
  have keep0 : ∀ b o, (h1.push (seqObj "list" acc.toList.toArray 0)).get? b = some o → o.cls = .type "tuple" → (TS.midHeap (h1.push (seqObj "list" acc.toList.toArray 0)) h1.objs.size acc.toList).get? b = some o := fun b o e c => by
    refine TS.midHeap_old (fun eb => ?_) e
    rw [eb, hL] at e
    rw [← Option.some.inj e] at c
    exact absurd (show Value.type "list" = Value.type "tuple" from c) (by decide)
  refine wpAny_bind (wpAny_holding (wpAny_call_entry slot_list_sort ⟨_, hL, rfl⟩ entry_list_sort
    (SK.plain_sort (r := fun v => (rowAt H (adOf v)).headD 0) hL (by omega) (fun g2 Qk hQk => kindFirsts g2 (f0.keep keep0) Qk hQk) fun ps out g1 g2 g3 => ?_) (args_list_sort _)))
  obtain ⟨pm, _⟩ := TS.out_rank (r := fun v => (rowAt H (adOf v)).headD 0) g1 g2 g3
  have isRef : ∀ v ∈ out.toList, v = Value.ref (adOf v) ∧ H (adOf v) = some (.tup ((rowAt H (adOf v)).map V.int)) := fun v hv => by
    obtain ⟨a, rfl, ha, _⟩ := tup ok2 v (pm.mem_iff.mp hv)
    exact ⟨rfl, ha⟩
  have eout : out.toList = (out.toList.map adOf).map Value.ref := by
    rw [List.map_map]
    conv => lhs; rw [← List.map_id out.toList]
    exact List.map_congr_left fun v hv => (isRef v hv).1
  have pm2 : ((out.toList.map adOf).map (rowAt H)).Perm kns := by
    have z := (pm.map adOf).map (rowAt H)
    rw [hacc, List.map_map (g := adOf), show (adOf ∘ Value.ref) = id from rfl, List.map_id, List.map_map (g := rowAt H) (f := fun x : List Key × Addr × Value => x.2.1)] at z
    rw [← row1]
    exact z
  obtain ⟨e', he'⟩ := sortedHeap_at (vs := acc.toList) (out := out) hL
  refine ⟨_, rfl, wpAny_pure ⟨_, rfl, .ref h1.objs.size, upd H h1.objs.size (.lst ((out.toList.map adOf).map V.ref)), I1.laid (t' := tk) (fun b u e => ?_) (Nat.le_refl _) ⟨?_, out.toList, e', ?_, ?_⟩, rfl,
    q _ _ pm2 (fun a ha => ?_) nL⟩⟩
  · have hb := Heap.lt_size e
    rw [sortedHeap_old (Nat.ne_of_lt hb) (Nat.lt_of_lt_of_le hb (by rw [size_push']; exact Nat.le_succ _))]
    exact Heap.get?_push_of_some (e := e) _
  · rw [List.length_map, List.length_map, pm.length_eq]; exact small lacc
  · conv => rhs; rw [eout]
    exact valsRefsN _
  · rw [Array.toArray_toList]; exact he'
  · obtain ⟨v, hv, rfl⟩ := List.mem_map.mp ha
    exact (isRef v hv).2
end L2

/-! knots_of. -/
namespace Nv
open PySem L2
abbrev sKnots : Stmt := top 19
/-! ### what is kept while a dict is locked -/
theorem lock_same {H H' : Hp} {d : Addr} {u : HO} {od : Obj} (hd : H d = some u) (s : Same (upd H d (.frz od u)) H') : Same H (upd H' d u) := fun b o e => by
  by_cases hb : b = d
  · subst hb
    rw [hd] at e
    rw [upd_same]
    exact e
  · rw [upd_ne hb]
    exact s b o (by rw [upd_ne hb]; exact e)
theorem MachAt.lock {C : Addr} {H : Hp} {p d : Addr} {n : Int} {es : List Ev} {kvs : List (Key × V)} {od : Obj} (h : MachAt C H p n es) (hd : H d = some (.dK kvs)) : MachAt C (upd H d (.frz od (.dK kvs))) p n es := by
  have k : ∀ b o, H b = some o → (∀ q, o ≠ .dK q) → (upd H d (.frz od (.dK kvs))) b = some o := fun b o e ho => by
    rw [upd_ne (fun z => by rw [z, hd] at e; exact ho _ (Option.some.inj e).symm)]
    exact e
  obtain ⟨dx, ea, la, ls, h1, ⟨as, g1, g2, g3⟩, h3, h4, h5⟩ := h
  refine ⟨dx, ea, la, ls, k _ _ h1 (fun _ z => nomatch z), ⟨as, k _ _ g1 (fun _ z => nomatch z), g2, fun i e he => ?_⟩, k _ _ h3 (fun _ z => nomatch z), h4, fun j l hj => k _ _ (h5 j l hj) (fun _ z => nomatch z)⟩
  obtain ⟨x, hx, ho⟩ := g3 i e he
  exact ⟨x, hx, k _ _ ho (fun _ z => nomatch z)⟩
/-! ### rows -/
theorem asc_eq : ∀ {l m : List Int}, l.Pairwise (· < ·) → m.Pairwise (· < ·) → (∀ x, x ∈ l ↔ x ∈ m) → l = m
  | [], [], _, _, _ => rfl
  | [], b :: m, _, _, h => absurd ((h b).mpr List.mem_cons_self) (by simp)
  | a :: l, [], _, _, h => absurd ((h a).mp List.mem_cons_self) (by simp)
  | a :: l, b :: m, h1, h2, h => by
    obtain ⟨a1, a2⟩ := List.pairwise_cons.mp h1
    obtain ⟨b1, b2⟩ := List.pairwise_cons.mp h2
    have e : a = b := by
      rcases List.mem_cons.1 ((h a).mp List.mem_cons_self) with z | z
      · exact z
      · rcases List.mem_cons.1 ((h b).mpr List.mem_cons_self) with y | y
        · exact y.symm
        · have := b1 a z
          have := a1 b y
          omega
    subst e
    rw [asc_eq a2 b2 fun x => ?_]
    constructor
    · intro hx
      rcases List.mem_cons.1 ((h x).mp (List.mem_cons_of_mem _ hx)) with z | z
      · have := a1 x hx; omega
      · exact z
    · intro hx
      rcases List.mem_cons.1 ((h x).mpr (List.mem_cons_of_mem _ hx)) with z | z
      · have := b1 x hx; omega
      · exact z
/-- a knot's row: ascending, the class of some reached standing -/
structure KRow (es : List Ev) (k : List Int) : Prop where
  asc : k.Pairwise (· < ·)
  cls : ∃ s, Reach es 0 s ∧ ∀ v, v ∈ k ↔ Knot es s v
theorem KRow.ne {es : List Ev} {k : List Int} (h : KRow es k) : k ≠ [] := fun z => by
  obtain ⟨s, _, hk⟩ := h.cls
  have : s ∈ k := (hk s).mpr ⟨Reach.refl _, Reach.refl _⟩
  rw [z] at this
  cases this
theorem KRow.mem {es : List Ev} {k : List Int} (h : KRow es k) {x : Int} (hx : x ∈ k) : ∀ v, v ∈ k ↔ Knot es x v := by
  obtain ⟨s, _, hk⟩ := h.cls
  have := (hk x).mp hx
  exact fun v => (hk v).trans ⟨fun z => ⟨this.2.trans z.1, z.2.trans this.1⟩, fun z => ⟨this.1.trans z.1, z.2.trans this.2⟩⟩
theorem KRow.eq {es : List Ev} {k m : List Int} (h : KRow es k) (g : KRow es m) {x : Int} (hx : x ∈ k) (gx : x ∈ m) : k = m :=
  asc_eq h.asc g.asc fun v => (h.mem hx v).trans (g.mem gx v).symm
theorem headD_mem {k : List Int} (h : k ≠ []) : k.headD 0 ∈ k := by
  cases k with
  | nil => exact absurd rfl h
  | cons a r => exact List.mem_cons_self
theorem heads_nodup {es : List Ev} : ∀ {kns : List (List Int)}, kns.Nodup → (∀ k ∈ kns, KRow es k) → (kns.map fun q => q.headD 0).Nodup
  | [], _, _ => List.nodup_nil
  | k :: kns, h, g => by
    obtain ⟨out, h2⟩ := List.nodup_cons.mp h
    refine List.nodup_cons.mpr ⟨fun m => ?_, heads_nodup h2 fun q hq => g q (List.mem_cons_of_mem _ hq)⟩
    obtain ⟨q, hq, e⟩ := List.mem_map.mp m
    have gk := g k List.mem_cons_self
    have gq := g q (List.mem_cons_of_mem _ hq)
    have e' : q.headD 0 = k.headD 0 := e
    have := gk.eq gq (headD_mem gk.ne) (by rw [← e']; exact headD_mem gq.ne)
    exact out (this ▸ hq)
/-- the keys behind a store -/
theorem putK_keys {κ : Type} [DecidableEq κ] (kvs : List (κ × V)) (k : κ) (v : V) : (putK kvs k v).map (·.1) = if k ∈ kvs.map (·.1) then kvs.map (·.1) else kvs.map (·.1) ++ [k] := by
  have found : (kvs.any fun kv => decide (kv.1 = k)) = true ↔ k ∈ kvs.map (·.1) := by simp [List.any_eq_true, List.mem_map]
  unfold putK
  split
  · next z =>
    rw [if_pos (found.mp z), List.map_map]
    refine List.map_congr_left fun p _ => ?_
    show (if p.1 = k then (p.1, v) else p).1 = p.1
    split <;> rfl
  · next z =>
    rw [if_neg fun m => z (found.mpr m), List.map_append]
    rfl
theorem kI_inj {p q : List Int} (h : kI p = kI q) : p = q := by
  unfold kI at h
  exact (List.map_inj_right fun a b e => Sum.inl.inj e).mp h
/-- the knots: rows, none twice, of every reached standing one -/
structure KnotsOk (es : List Ev) (kns : List (List Int)) : Prop where
  row : ∀ k ∈ kns, KRow es k
  all : ∀ s, Reach es 0 s → ∃ k ∈ kns, s ∈ k
def spKnots (C : Addr) : Sp := fun vs H Q _ => ∃ (p : Addr) (n : Int) (es : List Ev), vs = [.ref p] ∧ MachAt C H p n es ∧ OkParts n es ∧
  ∀ (H' : Hp) (a : Addr) (as : List Addr), Same H H' → H a = none → H' a = some (.lst (as.map V.ref)) → (∀ b ∈ as, H' b = some (.tup (vI (rowAt H' b)))) → KnotsOk es (as.map (rowAt H')) → as.length ≤ 4 → Q (.ref a) H'
section
variable {P : Program} {w : World} {K : PySem.W.Frag} {mg : Str → Option Value} {base : Heap} {C : Addr}
theorem scKnots : FnScope ["machine", "standing", "inner", "ways", "found", "other"] ["machine"] (defScope sKnots) := ⟨rfl, rfl, rfl, by decide +kernel, rfl, by decide +kernel, by decide +kernel⟩
theorem at_vI {l : List Int} {i : Nat} {x : V} (h : (vI l)[i]? = some x) : ∃ k, l[i]? = some k ∧ x = V.int k := by
  unfold vI at h
  rw [List.getElem?_map] at h
  cases e : l[i]? with
  | none => rw [e] at h; exact nomatch h
  | some k => rw [e] at h; exact ⟨k, rfl, (Option.some.inj h).symm⟩
theorem take_snoc {α : Type} {l : List α} {i : Nat} {x : α} (h : l[i]? = some x) : l.take (i + 1) = l.take i ++ [x] := by
  rw [List.take_add_one, h]
  rfl
theorem take_notin {l : List Int} (nd : l.Nodup) {i : Nat} {x : Int} (h : l[i]? = some x) : ¬ x ∈ l.take i := fun m => by
  obtain ⟨j, hj, e⟩ := List.mem_iff_getElem.mp m
  have hj' : j < i := by rw [List.length_take] at hj; omega
  have : l[j]? = some x := by rw [List.getElem_take] at e; rw [List.getElem?_eq_some_iff]; exact ⟨by rw [List.length_take] at hj; omega, e⟩
  have := nd_ix nd h this
  omega
theorem c_knots (T : Txt mg) (M : TxtM K mg C) (cF : Cal P w K mg base 2 "flooded" ["machine", "start", "inner"] (spFlooded C)) (cR : Cal P w K mg base 3 "reached_of" ["machine"] (spReached C)) (D : DefOf K mg "knots_of" sKnots ["machine"]) :
    Cal P w K mg base 4 "knots_of" ["machine"] (spKnots C) := by
  refine D.cal fun f fd F => F.ok scKnots (fun vs H Q E h => ?_) (fun cdv A outer s H vs Q E hr h => ?_)
  · obtain ⟨p, n, es, rfl, _⟩ := h
    rfl
  · obtain ⟨p, n, es, rfl, hM, ok, k⟩ := h
    have hu := hu_of hr
    have n1 := ok.n1
    have n4 := ok.n4
    refine ⟨_, pss_cons (ps_set (i := 2) scKnots.nd rfl (.inr rfl) (pe_dc (own := [("standing", 1)]) (g := gName 1) (tt := tYes) rfl scKnots.nd (pi_tup (pcal cR hr (pa_cons (pv 0) pa_nil)))
        (blkOk_by (own := [("standing", 1)]) (N := ["machine", "standing", "inner", "ways", "found", "other"]) (sc := defScope sKnots) (by decide +kernel)) (fun _ _ _ _ _ => pg_name (i := 1) scKnots.nd rfl (.inl rfl)) (fun _ _ _ _ _ => pts_nil) (fun _ _ _ _ _ => pv 1) (fun _ _ _ _ _ => pe_bl)))
      (pss_cons (ps_set (i := 3) scKnots.nd rfl (.inr rfl) (pe_lock (pe_dc (own := [("standing", 1)]) (g := gName 1) (tt := tYes) rfl scKnots.nd (pi_keys (pv 2))
        (blkOk_by (own := [("standing", 1)]) (N := ["machine", "standing", "inner", "ways", "found", "other"]) (sc := defScope sKnots) (by decide +kernel)) (fun _ _ _ _ _ => pg_name (i := 1) scKnots.nd rfl (.inl rfl)) (fun _ _ _ _ _ => pts_nil) (fun _ _ _ _ _ => pv 1)
          (fun _ _ _ _ _ => pcal cF hr (pa_cons (pv 0) (pa_cons (pv 1) (pa_cons (pv 2) pa_nil)))))))
      (pss_cons (ps_set (i := 4) scKnots.nd rfl (.inl rfl) pe_dnewT)
      (pss_cons (ps_lock (ps_for PassesOwn.never rfl (pi_keys (pv 2)) (pg_name (i := 1) scKnots.nd rfl (.inr rfl))
        (pss_one (ps_dput hu (pv 4) (pe_callTy call_tuple_of (by rfl) T.tuple (by decide +kernel) (pa_cons
          (pe_lc (own := [("other", 5)]) (g := gName 5) rfl scKnots.nd (pi_list (pe_callB (call_sortedDI rfl) (by rfl) T.sorted (by decide +kernel) (pa_cons (pe_dget hu (pv 3) (pv 1) (fun _ _ => rfl)) pa_nil)))
            (blkOk_by (own := [("other", 5)]) (N := ["machine", "standing", "inner", "ways", "found", "other"]) (sc := defScope sKnots) (by decide +kernel)) (fun _ _ _ _ _ => pg_name (i := 5) scKnots.nd rfl (.inl rfl))
            (fun _ _ _ _ _ => pts_one (pt_cmp (pc_din hu (pv 1) (pe_dget hu (pv 3) (pv 5) (fun _ _ => rfl))))) (fun _ _ _ _ _ => pv 5)) pa_nil)) pe_bl rfl))))
      (pss_one (ps_ret (pe_callB (cr_sortTK rfl) (by rfl) T.sorted (by decide +kernel) (pa_cons (pv 4) pa_nil))))))), ?_⟩
    -- inner
    refine ⟨_, rfl, p, n, es, rfl, hM, ok, fun H1 ra ks sm1 nra hra ndk hks => ⟨ra, rfl, ⟨_, SqT.of hra⟩, fun inn ninn => drive (walk_tup (K := K) (a := ra) (xs := vI ks)) (fun i H2 => H2 inn = some (.dK (dset (ks.take i))) ∧ Same H1 H2)
      ⟨upd_same, same_new (Same.refl _) ninn⟩ (fun i H2 _ g => SqT.of (g.2 _ _ hra)) ?_ ?_⟩⟩
    · rintro i x H2 H3 hi ⟨e1, sm2⟩ ⟨rfl, hx⟩
      obtain ⟨z, hz, rfl⟩ := at_vI hx
      refine ⟨rfl, _, rfl, dset (ks.take i), Sum.inl z, rfl, e1, small1000 ?_, ?_, same_upd sm2 ninn⟩
      · rw [dset_len, List.length_take]
        have := nodup_ints_len ndk fun v hv => reach_in ok (Int.le_refl _) (by omega) ((hks v).mp hv)
        omega
      · rw [upd_same, dset_put (take_notin ndk hz), take_snoc hz]
    rintro H2 ⟨e2, sm2⟩
    rw [vI_len, List.take_length] at e2
    have lk : ks.length ≤ n.toNat := nodup_ints_len ndk fun v hv => reach_in ok (Int.le_refl _) (by omega) ((hks v).mp hv)
    have smA : Same H H2 := sm1.trans sm2
    have hbd : ∀ z ∈ ks, 0 ≤ z ∧ z < n := fun z hz => reach_in ok (Int.le_refl _) (by omega) ((hks z).mp hz)
    -- ways
    refine ⟨inn, _, e2, trivial, fun od => ?_⟩
    have hML := (hM.same smA).lock (od := od) e2
    refine ⟨_, rfl, inn, od, rfl, .inl ⟨dset ks, upd_same, fun wd nwd => drive (walk_keys (d := inn) (o := od) (kvs := dset ks)) (fun i H3 => ∃ kvs : List (Key × V), H3 wd = some (.dK kvs) ∧ kvs.length ≤ i ∧ Same (upd H2 inn (.frz od (.dK (dset ks)))) H3 ∧
      ∀ s ∈ ks.take i, ∃ (a : Addr) (rs : List Int), valV kvs (Sum.inl s) = some (.ref a) ∧ H3 a = some (.dK (dset rs)) ∧ rs.Nodup ∧ ∀ v, v ∈ rs ↔ Reach es s v)
      ⟨[], upd_same, Nat.le_refl _, same_new (Same.refl _) nwd, by simp⟩ (fun i H3 _ ⟨_, _, _, g, _⟩ => g _ _ upd_same) ?_ ?_⟩⟩
    · rintro i x H3 H4 hi ⟨kvs, hw, hl, sm3, hw2⟩ ⟨rfl, kk, vv, hkv, rfl⟩
      have hz : ∃ z, ks[i]? = some z ∧ kk = Sum.inl z := by
        unfold dset at hkv
        rw [List.getElem?_map] at hkv
        cases e : ks[i]? with
        | none => rw [e] at hkv; exact nomatch hkv
        | some z => rw [e] at hkv; cases hkv; exact ⟨z, rfl, rfl⟩
      obtain ⟨z, hz, rfl⟩ := hz
      have hzk := List.mem_of_getElem? hz
      obtain ⟨z0, z1⟩ := hbd z hzk
      have hin := sm3 _ _ (upd_same (H := H2) (a := inn))
      rw [dset_len] at hi
      refine ⟨rfl, _, rfl, _, rfl, _, rfl, _, rfl, p, inn, z, n, es, dset ks, rfl, hML.same sm3, ok, z0, z1, .inr ⟨od, hin⟩, fun v r => ?_, fun H5 a rs sm5 na ha ndr hrs => ⟨kvs, Sum.inl z, rfl, sm5 _ _ hw, small1000 (by omega), _, upd_same, ?_, same_upd (sm3.trans sm5) nwd, fun y hy => ?_⟩⟩
      · rw [valV_dset, if_pos ((hks v).mpr (((hks z).mp hzk).trans r))]
        rfl
      · have := length_putK kvs (Sum.inl z) (V.ref a); omega
      · rw [valV_put]
        by_cases hyz : y = z
        · subst hyz
          rw [if_pos rfl]
          exact ⟨a, rs, rfl, by rw [upd_ne (fun q => by rw [q, hw] at na; cases na)]; exact ha, ndr, hrs⟩
        · rw [if_neg (fun q => hyz (Sum.inl.inj q))]
          rw [take_snoc hz] at hy
          rcases List.mem_append.1 hy with hy | hy
          · obtain ⟨b, qs, g1, g2, g3, g4⟩ := hw2 y hy
            have hbw : b ≠ wd := fun q => by
              rw [q, hw] at g2
              have := HO.dK.inj (Option.some.inj g2)
              rw [this, valV_dset] at g1
              split at g1 <;> cases g1
            exact ⟨b, qs, g1, by rw [upd_ne hbw]; exact sm5 _ _ g2, g3, g4⟩
          · exact absurd (List.mem_singleton.mp hy) hyz
    rintro H3 ⟨kvs, hw, hl, sm3, hw2⟩
    rw [dset_len, List.take_length] at hw2
    refine ⟨sm3 _ _ upd_same, ?_⟩
    have smB : Same H2 (upd H3 inn (.dK (dset ks))) := lock_same e2 sm3
    have hWays : ∃ wkv : List (Key × V), (upd H3 inn (.dK (dset ks))) wd = some (.dK wkv) ∧ wd ≠ inn ∧ ∀ y ∈ ks, ∃ (a : Addr) (rs : List Int), valV wkv (Sum.inl y) = some (.ref a) ∧ (upd H3 inn (.dK (dset ks))) a = some (.dK (dset rs)) ∧ a ≠ inn ∧ rs.Nodup ∧ ∀ v, v ∈ rs ↔ Reach es y v := by
      have hwi : wd ≠ inn := fun q => by rw [q, upd_same] at nwd; cases nwd
      refine ⟨kvs, by rw [upd_ne hwi]; exact hw, hwi, fun y hy => ?_⟩
      obtain ⟨b, qs, g1, g2, g3, g4⟩ := hw2 y hy
      have hbi : b ≠ inn := fun q => by rw [q, sm3 _ _ upd_same] at g2; cases g2
      exact ⟨b, qs, g1, by rw [upd_ne hbi]; exact g2, hbi, g3, g4⟩
    have hinn : (upd H3 inn (.dK (dset ks))) inn = some (.dK (dset ks)) := upd_same
    clear hw hl sm3 hw2 hML nwd
    have smC : Same H (upd H3 inn (.dK (dset ks))) := smA.trans smB
    generalize hHB : upd H3 inn (.dK (dset ks)) = HB at hinn hWays smC
    show tSeq _ _ _ _ HB
    -- found
    intro fd nfd
    have hin1 : (upd HB fd (.dT [])) inn = some (.dK (dset ks)) := by rw [upd_ne (ne_of_none hinn nfd)]; exact hinn
    refine ⟨inn, _, hin1, trivial, fun od2 => ?_⟩
    have fdi : fd ≠ inn := fun q => by rw [q, hinn] at nfd; cases nfd
    obtain ⟨wkv, hwd, wdi, hways⟩ := hWays
    have lk2 : ks.length ≤ 4 := by omega
    -- what stays: all of HB but inner
    have base0 : ∀ b o, HB b = some o → b ≠ inn → (upd (upd HB fd (.dT [])) inn (.frz od2 (.dK (dset ks)))) b = some o := fun b o e hb => by
      rw [upd_ne hb, upd_ne (ne_of_none e nfd)]; exact e
    refine ⟨_, rfl, inn, od2, rfl, .inl ⟨dset ks, upd_same, for_it (walk_keys (d := inn) (o := od2) (kvs := dset ks)) (fun i σ H6 => ∃ (v1 : Option V) (fkv : List (List Key × V)) (kns : List (List Int)), σ = [some (.ref p), v1, some (.ref inn), some (.ref wd), some (.ref fd), none] ∧
        H6 inn = some (.frz od2 (.dK (dset ks))) ∧ (∀ b o, HB b = some o → b ≠ inn → H6 b = some o) ∧ H6 fd = some (.dT fkv) ∧ fkv.map (·.1) = kns.map kI ∧ kns.Nodup ∧ (∀ q ∈ kns, KRow es q) ∧ (∀ y ∈ ks.take i, ∃ q ∈ kns, y ∈ q) ∧ kns.length ≤ i)
      ⟨none, [], [], rfl, upd_same, base0, by rw [upd_ne fdi]; exact upd_same, rfl, List.nodup_nil, by simp, by simp, Nat.le_refl _⟩ (fun i σ H6 _ ⟨_, _, _, _, g, _⟩ => g) ?_ ?_⟩⟩
    · rintro i x σ H6 H7 hi ⟨v1, fkv, kns, rfl, hi6, hb6, hf6, hk6, nd6, row6, all6, len6⟩ ⟨e7, kk, vv, hkv, rfl⟩
      have e7' := e7.symm
      subst e7'
      have hz : ∃ z, ks[i]? = some z ∧ kk = Sum.inl z := by
        unfold dset at hkv
        rw [List.getElem?_map] at hkv
        cases e : ks[i]? with
        | none => rw [e] at hkv; exact nomatch hkv
        | some z => rw [e] at hkv; cases hkv; exact ⟨z, rfl, rfl⟩
      obtain ⟨z, hz, rfl⟩ := hz
      have hzk := List.mem_of_getElem? hz
      obtain ⟨z0, z1⟩ := hbd z hzk
      rw [dset_len] at hi
      obtain ⟨a, rs, ga, ha, ani, ndr, hrs⟩ := hways z hzk
      have lrs : rs.length ≤ n.toNat := nodup_ints_len ndr fun v hv => reach_in ok z0 z1 ((hrs v).mp hv)
      have hw6 := hb6 _ _ hwd wdi
      have ha6 := hb6 _ _ ha ani
      refine ⟨_, rfl, _, rfl, _, rfl, wd, V.ref a, rfl, ?_, ?_⟩
      · have g := DGet.k (H := H6) (a := wd) (k := Sum.inl z) hw6
        rw [ga] at g
        exact g
      refine ⟨a, dset rs, rs, rfl, .inl ha6, dset_keys, by omega, fun ys q pm asc nq => ?_⟩
      have ndy : ys.Nodup := pm.nodup_iff.mpr ndr
      have hys : ∀ v, v ∈ ys ↔ Reach es z v := fun v => (pm.mem_iff).trans (hrs v)
      have lys : ys.length ≤ n.toNat := by rw [pm.length_eq]; exact lrs
      refine ⟨q, rfl, ⟨_, SqL.of upd_same⟩, fun D nD => lc_list (K := K) (a := q) (xs := vI ys) (fun j H8 => ∃ acc : List Int, H8 D = some (.lst (vI acc)) ∧ acc.length ≤ j ∧ acc.Pairwise (· < ·) ∧ (∀ v, v ∈ acc ↔ v ∈ ys.take j ∧ Reach es v z) ∧ Same (upd H6 q (.lst (ys.map V.int))) H8)
        ⟨[], upd_same, Nat.le_refl _, List.Pairwise.nil, by simp, same_new (Same.refl _) nD⟩ (fun j H8 _ ⟨_, _, _, _, _, g⟩ => SqL.of (g _ _ upd_same)) ?_ ?_⟩
      · rintro j y H8 hj ⟨acc, hD, hl, hasc, hmem, sm8⟩
        obtain ⟨u, hu8, rfl⟩ := at_vI hj
        have huy := List.mem_of_getElem? hu8
        have huk : u ∈ ks := (hks u).mpr (((hks z).mp hzk).trans ((hys u).mp huy))
        obtain ⟨b, qs, gb, hb, bni, ndq, hqs⟩ := hways u huk
        have sm68 : Same H6 H8 := fun c o e => sm8 c o (by rw [upd_ne (ne_of_none e nq)]; exact e)
        refine ⟨rfl, _, rfl, _, rfl, _, rfl, wd, V.ref b, rfl, ?_, ?_⟩
        · have g := DGet.k (H := H8) (a := wd) (k := Sum.inl u) (sm68 _ _ hw6)
          rw [gb] at g
          exact g
        refine ⟨b, _, rfl, DGet.k (k := Sum.inl z) (sm68 _ _ (hb6 _ _ hb bni)), _, rfl, ?_⟩
        rw [valV_dset]
        have hbefore : ∀ v ∈ ys.take j, v < u := fun v hv => by
          obtain ⟨j', hj', e⟩ := List.mem_iff_getElem.mp hv
          rw [List.length_take] at hj'
          have hju : j < ys.length := (List.getElem?_eq_some_iff.mp hu8).1
          rw [List.getElem_take] at e
          have hle := (List.pairwise_iff_getElem.mp asc) j' j (by omega) hju (by omega)
          have eu : ys[j] = u := (List.getElem?_eq_some_iff.mp hu8).2
          have hne : v ≠ u := fun q => take_notin ndy hu8 (q ▸ hv)
          rw [e, eu] at hle
          omega
        by_cases hzq : z ∈ qs
        · rw [if_pos hzq]
          refine iteT ⟨_, rfl, _, hD, small1000 (by rw [vI_len]; have := (List.getElem?_eq_some_iff.mp hu8).1; omega), acc ++ [u], ?_, ?_, ?_, fun v => ?_, ?_⟩
          · rw [vI_app]; exact upd_same
          · simp only [List.length_append, List.length_singleton]; omega
          · refine List.pairwise_append.mpr ⟨hasc, List.pairwise_singleton _ _, fun v hv w hw => ?_⟩
            rw [List.mem_singleton.mp hw]
            exact hbefore v ((hmem v).mp hv).1
          · rw [take_snoc hu8, List.mem_append, List.mem_append, hmem]
            constructor
            · rintro (⟨h1, h2⟩ | h1)
              · exact ⟨.inl h1, h2⟩
              · refine ⟨.inr h1, ?_⟩
                rw [List.mem_singleton.mp h1]
                exact (hqs z).mp hzq
            · rintro ⟨h1 | h1, h2⟩
              · exact .inl ⟨h1, h2⟩
              · exact .inr h1
          · exact same_upd sm8 nD
        · rw [if_neg hzq]
          refine iteF ⟨acc, hD, by omega, hasc, fun v => ?_, sm8⟩
          rw [hmem, take_snoc hu8, List.mem_append]
          constructor
          · rintro ⟨h1, h2⟩
            exact ⟨.inl h1, h2⟩
          · rintro ⟨h1 | h1, h2⟩
            · exact ⟨h1, h2⟩
            · rw [List.mem_singleton.mp h1] at h2
              exact absurd ((hqs z).mpr h2) hzq
      · rintro H8 ⟨acc, hD, hl, hasc, hmem, sm8⟩
        rw [vI_len] at hl hmem
        rw [List.take_length] at hmem
        have hrow : KRow es acc := ⟨hasc, z, (hks z).mp hzk, fun v => by rw [hmem, hys]; exact Iff.rfl⟩
        have hza : z ∈ acc := (hmem z).mpr ⟨(hys z).mpr (Reach.refl _), Reach.refl _⟩
        have sm68 : Same H6 H8 := fun c o e => sm8 c o (by rw [upd_ne (ne_of_none e nq)]; exact e)
        refine ⟨D, _, rfl, .inl ⟨SqL.of hD, fun l nl => ?_⟩⟩
        have hf8 := sm68 _ _ hf6
        have lkv : fkv.length = kns.length := by
          have := congrArg List.length hk6
          rw [List.length_map, List.length_map] at this
          exact this
        have hlt : (upd H8 l (.tup (vI acc))) l = some (.tup ((kI acc).map kV)) := by rw [kI_vals]; exact upd_same
        refine ⟨fd, _, rfl, DPut.t (k := kI acc) (by rw [upd_ne (ne_of_none hf8 nl)]; exact hf8) hlt (small1000 (by omega)), ?_⟩
        have keep : ∀ c o, H6 c = some o → c ≠ fd → (upd (upd H8 l (.tup (vI acc))) fd (.dT (putK fkv (kI acc) (V.bl true)))) c = some o := fun c o e hc => by
          rw [upd_ne hc, upd_ne (ne_of_none (sm68 _ _ e) nl)]; exact sm68 _ _ e
        have hkeys : (putK fkv (kI acc) (V.bl true)).map (·.1) = (if acc ∈ kns then kns else kns ++ [acc]).map kI := by
          rw [putK_keys, hk6]
          by_cases hm : acc ∈ kns
          · rw [if_pos hm, if_pos (List.mem_map_of_mem hm)]
          · rw [if_neg hm, if_neg (fun z => by obtain ⟨q, hq, e⟩ := List.mem_map.mp z; exact hm (kI_inj e ▸ hq)), List.map_append]
            rfl
        refine ⟨_, _, (if acc ∈ kns then kns else kns ++ [acc]), rfl, keep _ _ hi6 (fun q => fdi q.symm), fun c o e hc => keep c o (hb6 c o e hc) (ne_of_none e nfd), upd_same, hkeys, ?_, ?_, ?_, ?_⟩
        · split
          · exact nd6
          · exact nd_snoc nd6 (by assumption)
        · intro r hr'
          split at hr'
          · exact row6 r hr'
          · rcases List.mem_append.1 hr' with h1 | h1
            · exact row6 r h1
            · rw [List.mem_singleton.mp h1]; exact hrow
        · intro y hy
          rw [take_snoc hz] at hy
          rcases List.mem_append.1 hy with hy | hy
          · obtain ⟨r, hr1, hr2⟩ := all6 y hy
            refine ⟨r, ?_, hr2⟩
            split
            · exact hr1
            · exact List.mem_append_left _ hr1
          · rw [List.mem_singleton.mp hy]
            refine ⟨acc, ?_, hza⟩
            split
            · assumption
            · exact List.mem_append_right _ (by simp)
        · split
          · omega
          · simp only [List.length_append, List.length_singleton]; omega
    · rintro σ H6 ⟨v1, fkv, kns, rfl, hi6, hb6, hf6, hk6, nd6, row6, all6, len6⟩
      rw [dset_len] at all6 len6
      rw [List.take_length] at all6
      refine ⟨hi6, _, rfl, fd, fkv, kns, rfl, (by rw [upd_ne fdi]; exact hf6), hk6, by omega, fun q hq => (row6 q hq).ne, heads_nodup nd6 row6, fun as r pm has nr => ?_⟩
      have smD : Same HB (upd H6 inn (.dK (dset ks))) := fun b o e => by
        by_cases hb : b = inn
        · subst hb
          rw [hinn] at e
          rw [upd_same]; exact e
        · rw [upd_ne hb]; exact hb6 b o e hb
      have smE := same_new (smC.trans smD) (o := .lst (as.map V.ref)) nr
      have same_row : ∀ b ∈ as, rowAt (upd (upd H6 inn (.dK (dset ks))) r (.lst (as.map V.ref))) b = rowAt (upd H6 inn (.dK (dset ks))) b := fun b hb => by
        unfold rowAt
        rw [upd_ne (ne_of_none (has b hb) nr)]
      have emap : as.map (rowAt (upd (upd H6 inn (.dK (dset ks))) r (.lst (as.map V.ref)))) = as.map (rowAt (upd H6 inn (.dK (dset ks)))) := List.map_congr_left same_row
      refine k _ r as smE ((smC.trans smD).free nr) upd_same (fun b hb => ?_) ?_ ?_
      · rw [same_row b hb, upd_ne (ne_of_none (has b hb) nr)]
        exact has b hb
      · rw [emap]
        exact ⟨fun q hq => row6 q (pm.mem_iff.mp hq), fun y hy => by
          obtain ⟨q, h1, h2⟩ := all6 y ((hks y).mpr hy)
          exact ⟨q, pm.mem_iff.mpr h1, h2⟩⟩
      · have := pm.length_eq
        rw [List.length_map] at this
        omega
end
end Nv

/-! knot_of, check_standing, inner_events. -/
namespace Nv
open PySem L2
abbrev sKnotOf : Stmt := top 20
abbrev sCheckStanding : Stmt := top 21
abbrev sInner : Stmt := top 22
/-- the dict from reached standings to their knots' rows -/
def KnotDict (es : List Ev) (H : Hp) (kvs : List (Key × V)) : Prop :=
  ∀ s, Reach es 0 s → ∃ (b : Addr) (k : List Int), valV kvs (Sum.inl s) = some (.ref b) ∧ H b = some (.tup (vI k)) ∧ KRow es k ∧ s ∈ k
def spKnotOf (C : Addr) : Sp := fun vs H Q _ => ∃ (p : Addr) (n : Int) (es : List Ev), vs = [.ref p] ∧ MachAt C H p n es ∧ OkParts n es ∧
  ∀ (H' : Hp) (d : Addr) (kvs : List (Key × V)), Same H H' → H d = none → H' d = some (.dK kvs) → KnotDict es H' kvs → Q (.ref d) H'
def spCheckStanding : Sp := fun vs H Q _ => ∃ (p : V) (d : Addr) (s : Int) (kvs : List (Key × V)), vs = [p, .int s, .ref d] ∧ H d = some (.dK kvs) ∧ (valV kvs (Sum.inl s)).isSome = true ∧ Q .non H
/-- the numbers of the events within a row of standings -/
def inner (es : List Ev) (k : List Int) : List Nat := idx (fun e => decide (e.b ∈ k) && decide (e.a ∈ k)) es
theorem inner_succ {es : List Ev} {k : List Int} {i : Nat} {e : Ev} (h : es[i]? = some e) : inner (es.take (i + 1)) k = inner (es.take i) k ++ (if e.b ∈ k ∧ e.a ∈ k then [i] else []) := by
  unfold inner
  rw [idx_succ h]
  congr 1
  by_cases z : e.b ∈ k <;> by_cases y : e.a ∈ k <;> simp [z, y]
theorem mem_inner {es : List Ev} {k : List Int} {i : Nat} : i ∈ inner es k ↔ ∃ e, es[i]? = some e ∧ e.b ∈ k ∧ e.a ∈ k := by
  unfold inner
  rw [mem_idx]
  constructor
  · rintro ⟨e, h, g⟩
    rw [Bool.and_eq_true] at g
    exact ⟨e, h, of_decide_eq_true g.1, of_decide_eq_true g.2⟩
  · rintro ⟨e, h, g1, g2⟩
    exact ⟨e, h, by rw [decide_eq_true g1, decide_eq_true g2]; rfl⟩
def spInner (C : Addr) : Sp := fun vs H Q _ => ∃ (p b : Addr) (n : Int) (es : List Ev) (k : List Int), vs = [.ref p, .ref b] ∧ MachAt C H p n es ∧ OkParts n es ∧ H b = some (.tup (vI k)) ∧
  ∀ (H' : Hp) (a : Addr), Same H H' → H a = none → H' a = some (.lst (vN (inner es k))) → Q (.ref a) H'
theorem inV_int (x : Int) (l : List Int) : inV (.int x) (vI l) = decide (x ∈ l) := by
  unfold inV vI
  rw [List.any_map]
  rw [Bool.eq_iff_iff, List.any_eq_true, decide_eq_true_eq (p := x ∈ l)]
  constructor
  · rintro ⟨y, hy, e⟩
    have e' : eqV (.int y) (.int x) = true := e
    simp [eqV] at e'
    exact e' ▸ hy
  · intro h
    exact ⟨x, h, by simp [eqV]⟩
theorem flat_vI (l : List Int) : (vI l).all flatV = true := by
  unfold vI
  rw [List.all_map]
  exact List.all_eq_true.mpr (fun _ _ => rfl)
section
variable {P : Program} {w : World} {K : PySem.W.Frag} {mg : Str → Option Value} {base : Heap} {C : Addr}
theorem scKnotOf : FnScope ["machine", "knot", "standing"] ["machine"] (defScope sKnotOf) := ⟨rfl, rfl, rfl, by decide +kernel, rfl, by decide +kernel, by decide +kernel⟩
theorem c_knot_of (T : Txt mg) (M : TxtM K mg C) (cK : Cal P w K mg base 4 "knots_of" ["machine"] (spKnots C)) (D : DefOf K mg "knot_of" sKnotOf ["machine"]) :
    Cal P w K mg base 5 "knot_of" ["machine"] (spKnotOf C) := by
  refine D.cal fun f fd F => F.ok scKnotOf (fun vs H Q E h => ?_) (fun cdv A outer s H vs Q E hr h => ?_)
  · obtain ⟨p, n, es, rfl, _⟩ := h
    rfl
  · obtain ⟨p, n, es, rfl, hM, ok, k⟩ := h
    refine ⟨_, pss_one (ps_ret (pe_dc2 (own := [("knot", 1), ("standing", 2)]) (vs1 := [2]) (g := gName 1) (g1 := gName 2) (tt := tYes) (wi1 := iTup K (tVar 1)) (tt1 := tYes) rfl scKnotOf.nd (pi_list (pcal cK hr (pa_cons (pv 0) pa_nil)))
        (blkOk_by (own := [("knot", 1), ("standing", 2)]) (N := ["machine", "knot", "standing"]) (sc := defScope sKnotOf) (by decide +kernel)) (by decide)
        (fun _ _ _ _ _ => pg_name (i := 1) scKnotOf.nd rfl (.inl rfl)) (fun _ _ _ _ _ => pts_nil) (fun _ _ _ _ _ => pi_tup (pv 1)) (fun _ _ _ _ _ => pg_name (i := 2) scKnotOf.nd rfl (.inl rfl)) (fun _ _ _ _ _ => pts_nil)
        (fun _ _ _ _ _ => pv 2) (fun _ _ _ _ _ => pv 1))), ?_⟩
    refine ⟨_, rfl, p, n, es, rfl, hM, ok, fun H1 a as sm1 na ha hrow hK l4 => ⟨a, rfl, ⟨_, SqL.of ha⟩, fun d nd => drive (walk_list (K := K) (a := a) (xs := as.map V.ref))
      (fun i H2 => ∃ kvs : List (Key × V), H2 d = some (.dK kvs) ∧ kvs.length ≤ 4 * i ∧ Same H1 H2 ∧ ∀ b ∈ as.take i, ∀ x ∈ rowAt H1 b, ∃ c, valV kvs (Sum.inl x) = some (.ref c) ∧ c ∈ as ∧ x ∈ rowAt H1 c)
      ⟨[], upd_same, Nat.zero_le _, same_new (Same.refl _) nd, by simp⟩ (fun i H2 _ ⟨_, _, _, g, _⟩ => SqL.of (g _ _ ha)) ?_ ?_⟩⟩
    · rintro i x H2 H3 hi ⟨kvs, e2, l2, sm2, mem2⟩ ⟨e3, hx⟩
      have e3' := e3.symm
      subst e3'
      obtain ⟨b, hb, rfl⟩ := at_ref hx
      have hba := List.mem_of_getElem? hb
      have hbr := hrow b hba
      have hKb : KRow es (rowAt H1 b) := hK.row _ (List.mem_map_of_mem hba)
      have lb : (rowAt H1 b).length ≤ 4 := by
        obtain ⟨z, hz, hzk⟩ := hKb.cls
        have := nodup_ints_len (hKb.asc.imp (fun h => Int.ne_of_lt h)) fun v hv => reach_in ok (Int.le_refl _) (by have := ok.n1; omega) (hz.trans ((hzk v).mp hv).1)
        have := ok.n4
        omega
      refine ⟨rfl, _, rfl, b, rfl, ⟨_, SqT.of (sm2 _ _ hbr)⟩, drive (walk_tup (K := K) (a := b) (xs := vI (rowAt H1 b)))
        (fun j H4 => ∃ kvs : List (Key × V), H4 d = some (.dK kvs) ∧ kvs.length ≤ 4 * i + j ∧ Same H1 H4 ∧ (∀ b ∈ as.take i, ∀ x ∈ rowAt H1 b, ∃ c, valV kvs (Sum.inl x) = some (.ref c) ∧ c ∈ as ∧ x ∈ rowAt H1 c) ∧ ∀ x ∈ (rowAt H1 b).take j, ∃ c, valV kvs (Sum.inl x) = some (.ref c) ∧ c ∈ as ∧ x ∈ rowAt H1 c)
        ⟨kvs, e2, l2, sm2, mem2, by simp⟩ (fun j H4 _ ⟨_, _, _, g, _⟩ => SqT.of (g _ _ hbr)) ?_ ?_⟩
      · rintro j y H4 H5 hj ⟨kvs, e4, l4', sm4, mem4, now4⟩ ⟨e5, hy⟩
        have e5' := e5.symm
        subst e5'
        obtain ⟨u, hu, rfl⟩ := at_vI hy
        have hum := List.mem_of_getElem? hu
        rw [vI_len] at hj
        have hib : i < as.length := (List.getElem?_eq_some_iff.mp hb).1
        have put : ∀ x, (∃ c, valV kvs (Sum.inl x) = some (.ref c) ∧ c ∈ as ∧ x ∈ rowAt H1 c) → ∃ c, valV (putK kvs (Sum.inl u) (V.ref b)) (Sum.inl x) = some (.ref c) ∧ c ∈ as ∧ x ∈ rowAt H1 c := fun x ⟨c, h1, h2, h3⟩ => by
          rw [valV_put]
          by_cases hxu : x = u
          · subst hxu
            exact ⟨b, if_pos rfl, hba, hum⟩
          · rw [if_neg (fun q => hxu (Sum.inl.inj q))]
            exact ⟨c, h1, h2, h3⟩
        refine ⟨rfl, _, rfl, _, rfl, kvs, Sum.inl u, rfl, e4, small1000 (by omega), _, upd_same, ?_, same_upd sm4 nd, fun b' hb' x hx => put x (mem4 b' hb' x hx), fun x hx => ?_⟩
        · have := length_putK kvs (Sum.inl u) (V.ref b); omega
        · rw [take_snoc hu] at hx
          rcases List.mem_append.1 hx with hx | hx
          · exact put x (now4 x hx)
          · rw [List.mem_singleton.mp hx, valV_put, if_pos rfl]
            exact ⟨b, rfl, hba, hum⟩
      · rintro H4 ⟨kvs, e4, l4', sm4, mem4, now4⟩
        rw [vI_len] at l4' now4
        rw [List.take_length] at now4
        refine ⟨kvs, e4, by omega, sm4, fun b' hb' x hx => ?_⟩
        rw [take_snoc hb] at hb'
        rcases List.mem_append.1 hb' with hb' | hb'
        · exact mem4 b' hb' x hx
        · rw [List.mem_singleton.mp hb'] at hx
          exact now4 x hx
    · rintro H2 ⟨kvs, e2, l2, sm2, mem2⟩
      rw [List.length_map, List.take_length] at mem2
      refine k H2 d kvs (sm1.trans sm2) (sm1.free nd) e2 fun z hz => ?_
      obtain ⟨q, hq, hzq⟩ := hK.all z hz
      obtain ⟨b, hb, rfl⟩ := List.mem_map.mp hq
      obtain ⟨c, h1, h2, h3⟩ := mem2 b hb z hzq
      exact ⟨c, _, h1, sm2 _ _ (hrow c h2), hK.row _ (List.mem_map_of_mem h2), h3⟩
theorem scCheckStanding : FnScope ["machine", "thing", "knots_there"] ["machine", "thing", "knots_there"] (defScope sCheckStanding) := ⟨rfl, rfl, rfl, by decide +kernel, rfl, by decide +kernel, by decide +kernel⟩
theorem c_check_standing (T : Txt mg) (D : DefOf K mg "check_standing" sCheckStanding ["machine", "thing", "knots_there"]) : Cal P w K mg base 1 "check_standing" ["machine", "thing", "knots_there"] spCheckStanding := by
  refine D.cal fun f fd F => F.ok scCheckStanding (fun vs H Q E h => ?_) (fun cdv A outer s H vs Q E hr h => ?_)
  · obtain ⟨p, d, s, kvs, rfl, _⟩ := h
    rfl
  · obtain ⟨p, d, s, kvs, rfl, hd, hv, k⟩ := h
    have hu := hu_of hr
    refine ⟨_, pss_one (ps_if (PW.pt (pw_or (pt_val (pe_callB call_isi (by rfl) T.isi (by decide +kernel) (pa_cons (pv 1) (pa_cons (pe_bltn (v := .ty "bool") (by rfl) T.bool (by decide +kernel) rfl) pa_nil))))
      (pw_or (pt_not (pt_val (pe_callB call_isi (by rfl) T.isi (by decide +kernel) (pa_cons (pv 1) (pa_cons (pe_bltn (v := .ty "int") (by rfl) T.int (by decide +kernel) rfl) pa_nil)))))
        (pw_or1 (pt_cmp (pc_dnotin hu (pv 1) (pv 2))))))) (pss_one ps_never) pss_nil), ?_⟩
    refine ⟨_, rfl, _, _, _, _, false, rfl, .ty "bool", .base (.int s), kit_ty (by decide +kernel), _, rfl, iteF ?_⟩
    refine ⟨_, rfl, _, _, _, _, true, rfl, .ty "int", .base (.int s), kit_ty (by decide +kernel), _, rfl, iteF ?_⟩
    refine ⟨_, rfl, _, rfl, d, _, rfl, DGet.k (k := Sum.inl s) hd, _, rfl, ?_⟩
    rw [hv]
    exact iteF k
theorem scInner : FnScope ["machine", "knot", "found", "number", "event"] ["machine", "knot"] (defScope sInner) := ⟨rfl, rfl, rfl, by decide +kernel, rfl, by decide +kernel, by decide +kernel⟩
theorem c_inner (T : Txt mg) (M : TxtM K mg C) (D : DefOf K mg "inner_events" sInner ["machine", "knot"]) : Cal P w K mg base 1 "inner_events" ["machine", "knot"] (spInner C) := by
  refine D.cal fun f fd F => F.ok scInner (fun vs H Q E h => ?_) (fun cdv A outer s H vs Q E hr h => ?_)
  · obtain ⟨p, b, n, es, kk, rfl, _⟩ := h
    rfl
  · obtain ⟨p, b, n, es, kk, rfl, hM, ok, hb, k⟩ := h
    obtain ⟨dx, ea, la, ls, h1, ⟨as, a1, a2, a3⟩, h3, h4, h5⟩ := hM.ex
    have hlen := ok.len
    refine ⟨_, pss_cons (ps_set (i := 2) scInner.nd rfl (.inl rfl) (pe_lst pa_nil))
      (pss_cons (ps_for PassesOwn.never rfl (pi_enumT (by rfl) T.enumerate (pa_cons (pe_fld (pv 0) rfl) pa_nil)) (pg_tup rfl (pgs_cons (pg_name (i := 3) scInner.nd rfl (.inl rfl)) (pgs_cons (pg_name (i := 4) scInner.nd rfl (.inl rfl)) pgs_nil)))
        (pss_one (ps_if (PW.pt (pw_and (pt_cmpR op_in_seq (pe_ix ix_tup (pv 4) pe_int (fun _ _ => rfl)) (pv 1) (by rfl)) (pw_and1 (pt_cmpR op_in_seq (pe_ix ix_tup (pv 4) pe_int (fun _ _ => rfl)) (pv 1) (by rfl)))))
          (pss_one (ps_expr (pe_bm PySem.F.plainAttrs_list PySem.F.slot_list_append PySem.F.type_list_append mt_append (pv 2) (pa_cons (pv 3) pa_nil)))) pss_nil)))
      (pss_one (ps_ret (pv 2)))), ?_⟩
    refine ⟨Nat.zero_le _, fun l nl => ?_⟩
    have sm0 : Same H (upd H l (.lst [])) := same_new (Same.refl _) nl
    refine ⟨_, rfl, p, C, dx, _, _, rfl, sm0 _ _ h1, M.cl, M.nE, mf_e _ _ _, ea, _, rfl, sm0 _ _ a1, for_it walk_enumT (fun i σ H3 => ∃ v3 v4 : Option V, σ = [some (.ref p), some (.ref b), some (.ref l), v3, v4] ∧ Same H H3 ∧ H3 l = some (.lst (vN (inner (es.take i) kk))))
      ⟨none, none, rfl, sm0, ?_⟩ (fun i σ H3 _ ⟨_, _, _, g, _⟩ => g _ _ a1) ?_ ?_⟩
    · unfold inner
      rw [idx_nil]
      exact upd_same
    · rintro i x σ H3 H4 hi ⟨v3, v4, rfl, sm3, hl3⟩ ⟨Tn, x1, x2, rfl, hTn, rfl, ex1, ex2⟩
      cases ex1
      rw [List.length_map, a2] at hi
      obtain ⟨e, he⟩ := get_some hi
      obtain ⟨xa, hxa, hxo⟩ := a3 i e he
      have ex3 : (as.map V.ref)[i]? = some x2 := ex2
      rw [ref_at hxa] at ex3
      cases ex3
      have nT : ∀ c o, H3 c = some o → (upd H3 Tn (.tup [.int (i : Int), .ref xa])) c = some o := fun c o e => by rw [upd_ne (ne_of_none e hTn)]; exact e
      refine ⟨Tn, _, rfl, SqT.of upd_same, rfl, _, _, rfl, _, _, rfl, rfl, ?_⟩
      refine ⟨_, rfl, xa, _, _, _, rfl, rfl, SqT.of (nT _ _ (sm3 _ _ hxo)), at0, _, rfl, b, _, rfl, .inr (SqT.of (nT _ _ (sm3 _ _ hb))), rfl, flat_vI kk, _, rfl, ?_⟩
      show if inV (.int e.b) (vI kk) = true then _ else _
      rw [inV_int]
      by_cases hin : e.b ∈ kk
      · rw [decide_eq_true hin]
        refine iteT ⟨_, rfl, xa, _, _, _, rfl, rfl, SqT.of (nT _ _ (sm3 _ _ hxo)), at1, _, rfl, b, _, rfl, .inr (SqT.of (nT _ _ (sm3 _ _ hb))), rfl, flat_vI kk, _, rfl, ?_⟩
        show if inV (.int e.a) (vI kk) = true then _ else _
        rw [inV_int]
        by_cases hia : e.a ∈ kk
        · rw [decide_eq_true hia]
          refine iteT ⟨_, rfl, .inl ⟨rfl, _, SqL.of (nT _ _ hl3)⟩, _, rfl, l, _, _, rfl, rfl, nT _ _ hl3, ?_, ?_⟩
          · rw [vN_len]
            refine small1000 ?_
            have := idx_len (q := fun e' : Ev => decide (e'.b ∈ kk) && decide (e'.a ∈ kk)) (es := es.take i)
            rw [List.length_take] at this
            unfold inner
            omega
          · refine ⟨_, _, rfl, same_upd (same_new sm3 hTn) nl, ?_⟩
            rw [inner_succ he, if_pos ⟨hin, hia⟩, vN_app]
            exact upd_same
        · rw [decide_eq_false hia]
          refine iteF ⟨_, _, rfl, same_new sm3 hTn, ?_⟩
          rw [inner_succ he, if_neg (fun z => hia z.2), List.append_nil]
          exact nT _ _ hl3
      · rw [decide_eq_false hin]
        refine iteF (iteF ⟨_, _, rfl, same_new sm3 hTn, ?_⟩)
        rw [inner_succ he, if_neg (fun z => hin z.1), List.append_nil]
        exact nT _ _ hl3
    · rintro σ H3 ⟨v3, v4, rfl, sm3, hl3⟩
      rw [List.length_map, a2, List.take_length] at hl3
      exact ⟨_, rfl, k H3 l sm3 nl hl3⟩
end
end Nv

/-! heights, differences. -/
namespace Nv
open PySem L2
abbrev sHeights : Stmt := top 24
abbrev sDiff : Stmt := top 25
theorem valV_mem {kvs : List (Key × V)} {ks : List Int} (h : kvs.map (·.1) = ks.map Sum.inl) {x : Int} : (valV kvs (Sum.inl x)).isSome = true ↔ x ∈ ks := by
  constructor
  · intro g
    obtain ⟨v, hv⟩ := Option.isSome_iff_exists.mp g
    have m := valV_in hv
    rw [h] at m
    obtain ⟨y, hy, e⟩ := List.mem_map.mp m
    exact Sum.inl.inj e ▸ hy
  · intro g
    cases e : valV kvs (Sum.inl x) with
    | some _ => rfl
    | none => exact absurd (by rw [h]; exact List.mem_map_of_mem g) (valV_not e)
/-- what heights has found: ks, those that wait ws, in the dict kvs the sums hT, hP -/
structure Ht (es : List Ev) (kk : List Int) (root : Int) (H : Hp) (kvs : List (Key × V)) (ks ws : List Int) (hT hP : Int → Int) : Prop where
  keys : kvs.map (·.1) = ks.map Sum.inl
  nd : ks.Nodup
  h0 : root ∈ ks
  inK : ∀ v ∈ ks, v ∈ kk
  sub : ∀ v ∈ ws, v ∈ ks
  wl : ws.length ≤ ks.length
  val : ∀ v ∈ ks, ∃ c, valV kvs (Sum.inl v) = some (.ref c) ∧ H c = some (.tup [.int (hT v), .int (hP v)])
  way : ∀ v ∈ ks, ∃ r, Way es root r v ∧ sT es r = hT v ∧ sP es r = hP v
  bd : ∀ v ∈ ks, 0 ≤ hT v ∧ hT v ≤ 3 * ks.length ∧ -(6 * ks.length) ≤ hP v ∧ hP v ≤ 6 * ks.length
theorem Ht.len {es : List Ev} {kk : List Int} {root : Int} {H : Hp} {kvs : List (Key × V)} {ks ws : List Int} {hT hP : Int → Int} (h : Ht es kk root H kvs ks ws hT hP) : ks.length ≤ kk.length :=
  List.Nodup.length_le_of_subset h.nd fun v hv => h.inK v hv
theorem Ht.klen {es : List Ev} {kk : List Int} {root : Int} {H : Hp} {kvs : List (Key × V)} {ks ws : List Int} {hT hP : Int → Int} (h : Ht es kk root H kvs ks ws hT hP) : kvs.length = ks.length := by
  have := congrArg List.length h.keys
  rw [List.length_map, List.length_map] at this
  exact this
/-- all events of x within the row lead to what is found -/
def DoneK (es : List Ev) (kk ks : List Int) (x : Int) : Prop := ∀ (i : Nat) (e : Ev), es[i]? = some e → e.b = x → e.a ∈ kk → e.a ∈ ks
theorem DoneK.more {es : List Ev} {kk ks : List Int} {x y : Int} (h : DoneK es kk ks x) : DoneK es kk (ks ++ [y]) x := fun i e he hb ha => List.mem_append_left _ (h i e he hb ha)
/-- a lot that goes on by all events within a class holds the whole class -/
theorem class_closed {es : List Ev} {S T : Int → Prop} (C : Class es S) (hs : ∀ (i : Nat) e, es[i]? = some e → T e.b → S e.a → T e.a) : ∀ {u v : Int} {r : List Nat}, Way es u r v → S u → S v → T u → T v := by
  intro u v r w
  induction w with
  | nil u => exact fun _ _ h => h
  | @cons i e r v he w ih =>
    intro hb hv tb
    have ha : S e.a := C.full e.b e.a hb (Reach.one he) (Reach.trans ⟨_, w⟩ (C.join _ _ hv hb))
    exact ih ha hv (hs i e he tb ha)
theorem KRow.cl {es : List Ev} {k : List Int} (h : KRow es k) : Class es fun v => v ∈ k := by
  obtain ⟨s, _, hk⟩ := h.cls
  exact knot_class.of_iff fun v => (hk v).symm
theorem KRow.len {es : List Ev} {k : List Int} {n : Int} (h : KRow es k) (ok : OkParts n es) : k.length ≤ 4 := by
  obtain ⟨z, hz, hzk⟩ := h.cls
  have := nodup_ints_len (h.asc.imp (fun h => Int.ne_of_lt h)) fun v hv => reach_in ok (Int.le_refl _) (by have := ok.n1; omega) (hz.trans ((hzk v).mp hv).1)
  have := ok.n4
  omega
def spHeights (C : Addr) : Sp := fun vs H Q _ => ∃ (p b : Addr) (n : Int) (es : List Ev) (kk : List Int), vs = [.ref p, .ref b] ∧ MachAt C H p n es ∧ OkParts n es ∧ H b = some (.tup (vI kk)) ∧ KRow es kk ∧
  ∀ (H' : Hp) (d : Addr) (kvs : List (Key × V)) (hT hP : Int → Int), Same H H' → H d = none → H' d = some (.dK kvs) → (∀ v ∈ kk, ∃ c, valV kvs (Sum.inl v) = some (.ref c) ∧ H' c = some (.tup [.int (hT v), .int (hP v)])) →
    Heights es (fun v => v ∈ kk) (kk.headD 0) hT hP → (∀ v ∈ kk, 0 ≤ hT v ∧ hT v ≤ 12 ∧ -24 ≤ hP v ∧ hP v ≤ 24) → Q (.ref d) H'
section
variable {P : Program} {w : World} {K : PySem.W.Frag} {mg : Str → Option Value} {base : Heap} {C : Addr}
theorem scHeights : FnScope ["machine", "knot", "found", "waiting", "inner", "standing", "event", "before", "after", "tries", "points"] ["machine", "knot"] (defScope sHeights) := ⟨rfl, rfl, rfl, by decide +kernel, rfl, by decide +kernel, by decide +kernel⟩
theorem head_at {k : List Int} (h : k ≠ []) : atI (vI k) 0 = some (.int (k.headD 0)) := by
  cases k with
  | nil => exact absurd rfl h
  | cons a r => exact at_of (j := 0) rfl rfl
theorem pat0 {a b : V} : atI [a, b] 0 = some a := at_of (j := 0) rfl rfl
theorem pat1 {a b : V} : atI [a, b] 1 = some b := at_of (j := 1) rfl rfl
theorem c_heights (T : Txt mg) (M : TxtM K mg C) (cS : Cal P w K mg base 1 "step_at" ["machine", "event"] (spStepAt C)) (cI : Cal P w K mg base 1 "inner_events" ["machine", "knot"] (spInner C)) (D : DefOf K mg "heights" sHeights ["machine", "knot"]) :
    Cal P w K mg base 2 "heights" ["machine", "knot"] (spHeights C) := by
  refine D.cal fun f fd F => F.ok scHeights (fun vs H Q E h => ?_) (fun cdv A outer s H vs Q E hr h => ?_)
  · obtain ⟨p, b, n, es, kk, rfl, _⟩ := h
    rfl
  · obtain ⟨p, b, n, es, kk, rfl, hM, ok, hb, hK, k⟩ := h
    have hu := hu_of hr
    have l4 := hK.len ok
    refine ⟨_, pss_cons (ps_set (i := 2) scHeights.nd rfl (.inl rfl) (pe_disp (pps_cons (pe_ix ix_tup (pv 1) pe_int (fun _ _ => rfl)) (pe_tup (pa_cons pe_int (pa_cons pe_int pa_nil))) pps_nil) (by rfl) (by rfl) (fun z => by cases z) (by decide)))
      (pss_cons (ps_set (i := 3) scHeights.nd rfl (.inl rfl) (pe_lst (pa_cons (pe_ix ix_tup (pv 1) pe_int (fun _ _ => rfl)) pa_nil)))
      (pss_cons (ps_set (i := 4) scHeights.nd rfl (.inl rfl) (pcal cI hr (pa_cons (pv 0) (pa_cons (pv 1) pa_nil))))
      (pss_cons (ps_while PassesOwn.never (pt_cmpR op_gt (pe_callB call_len_seq (by rfl) T.len PySem.boot_len (pa_cons (pv 3) pa_nil)) pe_int (nomark _))
        (pss_cons (ps_set (i := 5) scHeights.nd rfl (.inl rfl) (pe_bm0 PySem.F.plainAttrs_list PySem.F.slot_list_pop PySem.F.type_list_pop mt_pop (pv 3)))
        (pss_one (ps_for PassesOwn.never rfl (pi_list (pv 4)) (pg_name (i := 6) scHeights.nd rfl (.inl rfl))
          (pss_cons (ps_asg (pcal cS hr (pa_cons (pv 0) (pa_cons (pv 6) pa_nil))) (pg_tup rfl (pgs_cons (pg_name (i := 7) scHeights.nd rfl (.inl rfl)) (pgs_cons (pg_name (i := 8) scHeights.nd rfl (.inl rfl)) (pgs_cons (pg_name (i := 9) scHeights.nd rfl (.inl rfl)) (pgs_cons (pg_name (i := 10) scHeights.nd rfl (.inl rfl)) pgs_nil))))))
          (pss_one (ps_if (PW.pt (pw_and (pt_cmpR op_eq (pv 7) (pv 5) (nomark _)) (pw_and1 (pt_cmp (pc_dnotin hu (pv 8) (pv 2))))))
            (pss_cons (ps_dput hu (pv 2) (pv 8) (pe_tup (pa_cons (pe_op op_add (pe_ix ix_tup (pe_dget hu (pv 2) (pv 7) (fun _ _ => rfl)) pe_int (fun _ _ => rfl)) (pv 9)) (pa_cons (pe_op op_add (pe_ix ix_tup (pe_dget hu (pv 2) (pv 7) (fun _ _ => rfl)) pe_int (fun _ _ => rfl)) (pv 10)) pa_nil))) rfl)
              (pss_one (ps_expr (pe_bm PySem.F.plainAttrs_list PySem.F.slot_list_append PySem.F.type_list_append mt_append (pv 3) (pa_cons (pv 8) pa_nil))))) pss_nil)))))))
      (pss_one (ps_ret (pv 2)))))), ?_⟩
    have hne := hK.ne
    generalize hroot : kk.headD 0 = root at *
    have hrk : root ∈ kk := by rw [← hroot]; exact headD_mem hne
    have hat : atI (vI kk) 0 = some (.int root) := by rw [← hroot]; exact head_at hne
    -- found, waiting, inner
    intro fd nfd
    have sm0 : Same H (upd H fd (.dK [])) := same_new (Same.refl _) nfd
    refine ⟨_, rfl, b, _, _, _, rfl, rfl, SqT.of (sm0 _ _ hb), hat, (by show 2 ≤ sizeLine; decide), fun t0 nt0 => ?_⟩
    have ft0 : fd ≠ t0 := fun q => by rw [q, upd_same] at nt0; cases nt0
    have sm1 : Same H (upd (upd H fd (.dK [])) t0 (.tup [.int 0, .int 0])) := same_new sm0 nt0
    refine ⟨by rw [upd_ne ft0]; exact upd_same, [(Sum.inl root, V.ref t0)], rfl, (by show 1 ≤ 15; decide), ?_⟩
    have hd2 : (upd (upd (upd H fd (.dK [])) t0 (.tup [.int 0, .int 0])) fd (.dK (mergeK [] [(Sum.inl root, V.ref t0)]))) fd = some (.dK [(Sum.inl root, V.ref t0)]) := upd_same
    have ht2 : (upd (upd (upd H fd (.dK [])) t0 (.tup [.int 0, .int 0])) fd (.dK (mergeK [] [(Sum.inl root, V.ref t0)]))) t0 = some (.tup [.int 0, .int 0]) := by rw [upd_ne ft0.symm]; exact upd_same
    have sm2 : Same H (upd (upd (upd H fd (.dK [])) t0 (.tup [.int 0, .int 0])) fd (.dK (mergeK [] [(Sum.inl root, V.ref t0)]))) := same_upd sm1 nfd
    generalize upd (upd (upd H fd (.dK [])) t0 (.tup [.int 0, .int 0])) fd (.dK (mergeK [] [(Sum.inl root, V.ref t0)])) = H2 at hd2 ht2 sm2
    show tSeq _ _ _ _ H2
    refine ⟨_, rfl, b, _, _, _, rfl, rfl, SqT.of (sm2 _ _ hb), hat, (by show 1 ≤ sizeLine; decide), fun wd nwd => ?_⟩
    have fw : fd ≠ wd := ne_of_none hd2 nwd
    have nwd0 : H wd = none := sm2.free nwd
    have sm3 : Same H2 (upd H2 wd (.lst [.int root])) := same_new (Same.refl _) nwd
    refine ⟨_, rfl, _, rfl, p, b, n, es, kk, rfl, hM.same (sm2.trans sm3), ok, (sm2.trans sm3) _ _ hb, fun H4 il sm4 nil hil => ?_⟩
    have smX : Same H2 H4 := sm3.trans sm4
    have hw4 : H4 wd = some (.lst (vI [root])) := sm4 _ _ upd_same
    have nil0 : H il = none := sm2.free (sm3.free nil)
    have ifd : il ≠ fd := fun q => by rw [q, upd_ne fw, hd2] at nil; cases nil
    have iwd : il ≠ wd := fun q => by rw [q, upd_same] at nil; cases nil
    -- the while
    refine ⟨fun m σ H' => ∃ (ks ws : List Int) (kvs : List (Key × V)) (hT hP : Int → Int) (v5 v6 v7 v8 v9 v10 : Option V), σ = [some (.ref p), some (.ref b), some (.ref fd), some (.ref wd), some (.ref il), v5, v6, v7, v8, v9, v10] ∧ Same H H' ∧ H' fd = some (.dK kvs) ∧ H' wd = some (.lst (vI ws)) ∧
      H' il = some (.lst (vN (inner es kk))) ∧ Ht es kk root H' kvs ks ws hT hP ∧ (∀ x ∈ ks, x ∈ ws ∨ DoneK es kk ks x) ∧ ws.length + 2 * (kk.length - ks.length) = m,
      ⟨_, [root], [root], _, fun _ => 0, fun _ => 0, none, none, none, none, none, none, rfl, sm2.trans smX, smX _ _ hd2, hw4, hil, ?_, fun x hx => .inl hx, rfl⟩, ?_⟩
    · refine ⟨rfl, by simp, by simp, fun v hv => ?_, fun v hv => hv, Nat.le_refl _, fun v hv => ?_, fun v hv => ?_, fun v hv => ?_⟩
      · rw [List.mem_singleton.mp hv]; exact hrk
      · rw [List.mem_singleton.mp hv]; exact ⟨t0, valV_pos rfl, smX _ _ ht2⟩
      · rw [List.mem_singleton.mp hv]; exact ⟨[], .nil _, rfl, rfl⟩
      · exact ⟨Int.le_refl _, by simp, by simp, by simp⟩
    rintro m0 σ H1 ⟨ks, ws, kvs, hT, hP, v5, v6, v7, v8, v9, v10, rfl, sm, hf, hw, hi, ht, dn, hm0⟩
    refine ⟨_, rfl, wd, _, rfl, .inl (SqL.of hw), _, _, rfl, rfl, _, rfl, ite2 (fun hgt => ?_) (fun hgt => ?_)⟩
    · have hne : ws ≠ [] := fun q => by subst q; exact absurd (of_decide_eq_true hgt) (by decide)
      obtain ⟨ws', x, rfl⟩ := last_split hne
      refine ⟨_, fun σ' H' z => z, ?_⟩
      have hx : x ∈ ks := ht.sub x (by simp)
      refine ⟨_, rfl, .inl ⟨rfl, _, SqL.of hw⟩, wd, _, V.int x, rfl, rfl, hw, (by rw [vI_app]; simp [vI]), ?_⟩
      have hdl : (vI (ws' ++ [x])).dropLast = vI ws' := by rw [vI_app]; simp [vI]
      rw [hdl]
      have val' : ∀ {H' : Hp}, (∀ c o, H1 c = some o → c ≠ wd → H' c = some o) → ∀ v ∈ ks, ∃ c, valV kvs (Sum.inl v) = some (.ref c) ∧ H' c = some (.tup [.int (hT v), .int (hP v)]) := fun kp v hv => by
        obtain ⟨c, h1, h2⟩ := ht.val v hv
        exact ⟨c, h1, kp _ _ h2 (fun q => by rw [q, hw] at h2; cases h2)⟩
      have k1 : ∀ c o, H1 c = some o → c ≠ wd → (upd H1 wd (.lst (vI ws'))) c = some o := fun c o e hc => by rw [upd_ne hc]; exact e
      have ht2 : Ht es kk root (upd H1 wd (.lst (vI ws'))) kvs ks ws' hT hP := ⟨ht.keys, ht.nd, ht.h0, ht.inK, fun v hv => ht.sub v (by simp [hv]), by have := ht.wl; rw [List.length_append, List.length_singleton] at this; omega, val' k1, ht.way, ht.bd⟩
      refine ⟨_, rfl, il, rfl, ⟨_, SqL.of (k1 _ _ hi iwd)⟩, for_list (K := K) (a := il) (xs := vN (inner es kk)) (fun i σ H3 => ∃ (ks ws : List Int) (kvs : List (Key × V)) (hT hP : Int → Int) (v6 v7 v8 v9 v10 : Option V),
          σ = [some (.ref p), some (.ref b), some (.ref fd), some (.ref wd), some (.ref il), some (.int x), v6, v7, v8, v9, v10] ∧ Same H H3 ∧ H3 fd = some (.dK kvs) ∧ H3 wd = some (.lst (vI ws)) ∧ H3 il = some (.lst (vN (inner es kk))) ∧ Ht es kk root H3 kvs ks ws hT hP ∧
          (∀ y ∈ ks, y ∈ ws ∨ y = x ∨ DoneK es kk ks y) ∧ x ∈ ks ∧ (∀ (j q : Nat) e, j < i → (inner es kk)[j]? = some q → es[q]? = some e → e.b = x → e.a ∈ ks) ∧ ws.length + 2 * (kk.length - ks.length) < m0)
          ⟨ks, ws', kvs, hT, hP, v6, v7, v8, v9, v10, rfl, same_upd sm nwd0, k1 _ _ hf fw, upd_same, k1 _ _ hi iwd, ht2, fun y hy => ?_, hx, fun j q e hj => absurd hj (Nat.not_lt_zero _), ?_⟩ (fun i σ H3 _ ⟨_, _, _, _, _, _, _, _, _, _, _, _, _, _, g, _⟩ => SqL.of g) ?_ ?_⟩
      · rcases dn y hy with z | z
        · rcases List.mem_append.1 z with z | z
          · exact .inl z
          · exact .inr (.inl (List.mem_singleton.mp z))
        · exact .inr (.inr z)
      · rw [← hm0, List.length_append, List.length_singleton]; omega
      · clear ht2 ht val' k1 hf hw hi hdl
        rintro i y σ H3 hi' ⟨ks, ws, kvs, hT, hP, v6, v7, v8, v9, v10, rfl, sm3, hf3, hw3, hi3, ht, dn, hx, hj, hlt⟩
        obtain ⟨q0, hq0, rfl⟩ := at_vN hi'
        obtain ⟨e, he, hbk, hak⟩ := mem_inner.mp (List.mem_of_getElem? hq0)
        have hlen := ht.len
        have hwl := ht.wl
        have hout : ∀ {ks' : List Int}, (∀ z ∈ ks, z ∈ ks') → (e.b = x → e.a ∈ ks') → ∀ (j q : Nat) e', j < i + 1 → (inner es kk)[j]? = some q → es[q]? = some e' → e'.b = x → e'.a ∈ ks' := fun hsub hin j q e' hjl hk he' hb' => by
          rcases Nat.lt_or_ge j i with z | z
          · exact hsub _ (hj j q e' z hk he' hb')
          · have : j = i := by omega
            subst this
            rw [hq0] at hk
            cases hk
            rw [he] at he'
            cases he'
            exact hin hb'
        refine ⟨_, rfl, _, rfl, p, n, es, q0, e, rfl, hM.same sm3, he, fun xa hxa => ?_⟩
        refine ⟨xa, _, rfl, SqT.of hxa, rfl, _, _, rfl, _, _, rfl, _, _, rfl, _, _, rfl, rfl, ?_⟩
        refine ⟨_, rfl, _, rfl, rfl, _, rfl, ?_⟩
        show if decide (V.int e.b = V.int x) = true then _ else _
        rw [dec_int]
        by_cases hbx : e.b = x
        · rw [show (e.b == x) = true from beq_iff_eq.mpr hbx]
          refine iteT ⟨_, rfl, _, rfl, fd, _, rfl, DGet.k (k := Sum.inl e.a) hf3, _, rfl, ?_⟩
          by_cases hin : e.a ∈ ks
          · rw [show (valV kvs (Sum.inl e.a)).isSome = true from (valV_mem ht.keys).mpr hin]
            refine iteF ?_
            exact ⟨ks, ws, kvs, hT, hP, _, _, _, _, _, rfl, sm3, hf3, hw3, hi3, ht, dn, hx, hout (fun _ z => z) (fun _ => hin), hlt⟩
          · have hno : valV kvs (Sum.inl e.a) = none := by
              cases z : valV kvs (Sum.inl e.a) with
              | none => rfl
              | some _ => exact absurd ((valV_mem ht.keys).mp (by rw [z]; rfl)) hin
            rw [hno]
            refine iteT ?_
            obtain ⟨c, hc1, hc2⟩ := ht.val x hx
            have g1 : DGet H3 fd (kV (Sum.inl e.b)) (some (.ref c)) := by
              have := DGet.k (H := H3) (a := fd) (k := Sum.inl e.b) hf3
              rw [hbx, hc1] at this
              rw [hbx]
              exact this
            refine ⟨_, rfl, _, rfl, fd, .ref c, rfl, g1, _, _, _, _, rfl, rfl, SqT.of hc2, pat0, _, rfl, _, _, rfl, rfl, _, rfl, _, rfl, fd, .ref c, rfl, g1, _, _, _, _, rfl, rfl, SqT.of hc2, pat1, _, rfl, _, _, rfl, rfl, (by show 2 ≤ sizeLine; decide), fun tn ntn => ?_⟩
            have nt : ∀ d o, H3 d = some o → (upd H3 tn (.tup [.int (hT x + e.t), .int (hP x + e.p)])) d = some o := fun d o z => by rw [upd_ne (ne_of_none z ntn)]; exact z
            refine ⟨_, rfl, _, rfl, fd, _, rfl, DPut.k (k := Sum.inl e.a) (nt _ _ hf3) (small1000 (by rw [ht.klen]; omega)), ?_⟩
            have hput : putK kvs (Sum.inl e.a) (V.ref tn) = kvs ++ [(Sum.inl e.a, V.ref tn)] := putK_new _ hno
            have wfd : wd ≠ fd := fw.symm
            have kp : ∀ d o, H3 d = some o → d ≠ fd → (upd (upd H3 tn (.tup [.int (hT x + e.t), .int (hP x + e.p)])) fd (.dK (putK kvs (Sum.inl e.a) (V.ref tn)))) d = some o := fun d o z hd => by rw [upd_ne hd]; exact nt _ _ z
            refine ⟨_, rfl, .inl ⟨rfl, _, SqL.of (kp _ _ hw3 wfd)⟩, _, rfl, wd, _, _, rfl, rfl, kp _ _ hw3 wfd, small1000 (by rw [vI_len]; omega), ?_⟩
            have kp2 : ∀ d o, H3 d = some o → d ≠ fd → d ≠ wd → (upd (upd (upd H3 tn (.tup [.int (hT x + e.t), .int (hP x + e.p)])) fd (.dK (putK kvs (Sum.inl e.a) (V.ref tn)))) wd (.lst (vI ws ++ [V.int e.a]))) d = some o := fun d o z h1 h2 => by
              rw [upd_ne h2]; exact kp _ _ z h1
            have tnf : tn ≠ fd := fun q => by rw [q, hf3] at ntn; cases ntn
            have tnw : tn ≠ wd := fun q => by rw [q, hw3] at ntn; cases ntn
            have okE := ok.at he
            have bt1 := okE.t1
            have bt3 := okE.t3
            have bp0 := okE.p0
            have bp6 := okE.p6
            have htn : Ht es kk root (upd (upd (upd H3 tn (.tup [.int (hT x + e.t), .int (hP x + e.p)])) fd (.dK (putK kvs (Sum.inl e.a) (V.ref tn)))) wd (.lst (vI ws ++ [V.int e.a])))
                (putK kvs (Sum.inl e.a) (V.ref tn)) (ks ++ [e.a]) (ws ++ [e.a]) (fun v => if v = e.a then hT x + e.t else hT v) (fun v => if v = e.a then hP x + e.p else hP v) := by
              have nea : ∀ v ∈ ks, v ≠ e.a := fun v hv q => hin (q ▸ hv)
              refine ⟨?_, nd_snoc ht.nd hin, List.mem_append_left _ ht.h0, fun v hv => ?_, fun v hv => ?_, ?_, fun v hv => ?_, fun v hv => ?_, fun v hv => ?_⟩
              · rw [hput, List.map_append, List.map_append, ht.keys]; rfl
              · rcases List.mem_append.1 hv with hv | hv
                · exact ht.inK v hv
                · rw [List.mem_singleton.mp hv]; exact hak
              · rcases List.mem_append.1 hv with hv | hv
                · exact List.mem_append_left _ (ht.sub v hv)
                · exact List.mem_append_right _ hv
              · rw [List.length_append, List.length_append]; exact Nat.succ_le_succ hwl
              · rcases List.mem_append.1 hv with hv | hv
                · obtain ⟨c', h1, h2⟩ := ht.val v hv
                  refine ⟨c', ?_, ?_⟩
                  · rw [valV_put, if_neg (fun q => nea v hv (Sum.inl.inj q))]; exact h1
                  · show _ = some (HO.tup [V.int (if v = e.a then _ else _), V.int (if v = e.a then _ else _)])
                    rw [if_neg (nea v hv), if_neg (nea v hv)]
                    exact kp2 _ _ h2 (fun q => by rw [q, hf3] at h2; cases h2) (fun q => by rw [q, hw3] at h2; cases h2)
                · rw [List.mem_singleton.mp hv]
                  refine ⟨tn, by rw [valV_put, if_pos rfl], ?_⟩
                  show _ = some (HO.tup [V.int (if e.a = e.a then _ else _), V.int (if e.a = e.a then _ else _)])
                  rw [if_pos rfl, if_pos rfl, upd_ne tnw, upd_ne tnf]
                  exact upd_same
              · rcases List.mem_append.1 hv with hv | hv
                · obtain ⟨r, g1, g2, g3⟩ := ht.way v hv
                  refine ⟨r, g1, ?_, ?_⟩
                  · show _ = if v = e.a then _ else _
                    rw [if_neg (nea v hv)]; exact g2
                  · show _ = if v = e.a then _ else _
                    rw [if_neg (nea v hv)]; exact g3
                · rw [List.mem_singleton.mp hv]
                  obtain ⟨r, g1, g2, g3⟩ := ht.way x hx
                  refine ⟨r ++ [q0], g1.append (by rw [← hbx]; exact Way.one he), ?_, ?_⟩
                  · show _ = if e.a = e.a then _ else _
                    rw [if_pos rfl, sT_app, sT_cons he, sT_nil, g2]; omega
                  · show _ = if e.a = e.a then _ else _
                    rw [if_pos rfl, sP_app, sP_cons he, sP_nil, g3]; omega
              · have hl1 : (ks ++ [e.a]).length = ks.length + 1 := by rw [List.length_append]; rfl
                rcases List.mem_append.1 hv with hv | hv
                · have := ht.bd v hv
                  simp only [if_neg (nea v hv), hl1]
                  omega
                · rw [List.mem_singleton.mp hv]
                  have := ht.bd x hx
                  simp only [if_true, hl1]
                  omega
            have hl2 := htn.len
            rw [List.length_append, List.length_singleton] at hl2
            refine ⟨ks ++ [e.a], ws ++ [e.a], _, _, _, _, _, _, _, _, rfl, same_upd (same_upd (same_new sm3 ntn) nfd) nwd0, ?_, ?_, kp2 _ _ hi3 ifd iwd, htn, fun z hz => ?_, List.mem_append_left _ hx, hout (fun z hz => List.mem_append_left _ hz) (fun _ => by simp), ?_⟩
            · rw [upd_ne fw]; exact upd_same
            · rw [vI_app]; exact upd_same
            · rcases List.mem_append.1 hz with hz | hz
              · rcases dn z hz with q | q | q
                · exact .inl (List.mem_append_left _ q)
                · exact .inr (.inl q)
                · exact .inr (.inr q.more)
              · exact .inl (List.mem_append_right _ hz)
            · rw [List.length_append, List.length_append, List.length_singleton]; omega
        · rw [show (e.b == x) = false from beq_eq_false_iff_ne.mpr hbx]
          refine iteF (iteF ?_)
          exact ⟨ks, ws, kvs, hT, hP, _, _, _, _, _, rfl, sm3, hf3, hw3, hi3, ht, dn, hx, hout (fun _ z => z) (fun z => absurd z hbx), hlt⟩
      · rintro σ H3 ⟨ks, ws, kvs, hT, hP, v6, v7, v8, v9, v10, rfl, sm3, hf3, hw3, hi3, ht, dn, hx, hj, hlt⟩
        refine ⟨_, hlt, ks, ws, kvs, hT, hP, _, _, _, _, _, _, rfl, sm3, hf3, hw3, hi3, ht, fun y hy => ?_, rfl⟩
        rcases dn y hy with z | z | z
        · exact .inl z
        · refine .inr fun i e he hb ha => ?_
          have hm : i ∈ inner es kk := mem_inner.mpr ⟨e, he, by rw [hb]; exact ht.inK y hy, ha⟩
          obtain ⟨j, hj', hje⟩ := List.mem_iff_getElem.mp hm
          exact hj j i e (by rw [vN_len]; exact hj') (by rw [List.getElem?_eq_getElem hj', hje]) he (hb.trans z)
        · exact .inr z
    · have hws : ws = [] := by
        cases ws with
        | nil => rfl
        | cons a r => exact absurd (decide_eq_true (by rw [vI_len, List.length_cons]; omega)) hgt
      subst hws
      have hall : ∀ v ∈ kk, v ∈ ks := fun v hv => by
        obtain ⟨r, hr'⟩ := hK.cl.join root v hrk hv
        exact class_closed (S := fun y => y ∈ kk) (T := fun y => y ∈ ks) hK.cl (fun i e he hb ha => (dn _ hb).elim (fun z => by cases z) fun z => z i e he rfl ha) hr' hrk hv ht.h0
      have hl := ht.len
      refine ⟨_, rfl, k H1 fd kvs hT hP sm nfd hf (fun v hv => ht.val v (hall v hv)) (fun v hv => ht.way v (hall v hv)) fun v hv => ?_⟩
      have := ht.bd v (hall v hv)
      omega
end
end Nv

/-! differences. -/
namespace Nv
open PySem L2
/-- pairs of ints at the addresses as -/
def PairsAt (H : Hp) (as : List Addr) (ds : List (Int × Int)) : Prop := as.length = ds.length ∧ ∀ (i : Nat) (d : Int × Int), ds[i]? = some d → ∃ c, as[i]? = some c ∧ H c = some (.tup [.int d.1, .int d.2])
theorem PairsAt.nil {H : Hp} : PairsAt H [] [] := ⟨rfl, fun i d h => by simp at h⟩
theorem PairsAt.keep {H H' : Hp} {as : List Addr} {ds : List (Int × Int)} (h : PairsAt H as ds) (k : ∀ c xs, H c = some (.tup xs) → H' c = some (.tup xs)) : PairsAt H' as ds :=
  ⟨h.1, fun i d hd => let ⟨c, h1, h2⟩ := h.2 i d hd; ⟨c, h1, k _ _ h2⟩⟩
theorem PairsAt.snoc {H : Hp} {as : List Addr} {ds : List (Int × Int)} {c : Addr} {d : Int × Int} (h : PairsAt H as ds) (hc : H c = some (.tup [.int d.1, .int d.2])) : PairsAt H (as ++ [c]) (ds ++ [d]) := by
  refine ⟨by rw [List.length_append, List.length_append, h.1]; rfl, fun i e he => ?_⟩
  rcases Nat.lt_or_ge i ds.length with hi | hi
  · rw [List.getElem?_append_left hi] at he
    obtain ⟨x, h1, h2⟩ := h.2 i e he
    exact ⟨x, by rw [List.getElem?_append_left (by rw [h.1]; exact hi)]; exact h1, h2⟩
  · rw [List.getElem?_append_right hi] at he
    have hz : i - ds.length = 0 := by
      cases z : i - ds.length with
      | zero => rfl
      | succ m => rw [z] at he; simp at he
    rw [hz] at he
    cases he
    exact ⟨c, by rw [List.getElem?_append_right (by rw [h.1]; exact hi), h.1, hz]; rfl, hc⟩
/-- the list of a knot's differences -/
structure DsOk (es : List Ev) (kk : List Int) (ds : List (Int × Int)) (hT hP : Int → Int) : Prop where
  some : ∀ d ∈ ds, Diff es (fun v => v ∈ kk) hT hP d.1 d.2
  all : ∀ a b, Diff es (fun v => v ∈ kk) hT hP a b → (a, b) ∈ ds
  hh : Heights es (fun v => v ∈ kk) (kk.headD 0) hT hP
  bd : ∀ d ∈ ds, -24 ≤ d.1 ∧ d.1 ≤ 24 ∧ -60 ≤ d.2 ∧ d.2 ≤ 60
  len : ds.length ≤ 6
def spDiff (C : Addr) : Sp := fun vs H Q _ => ∃ (p b : Addr) (n : Int) (es : List Ev) (kk : List Int), vs = [.ref p, .ref b] ∧ MachAt C H p n es ∧ OkParts n es ∧ H b = some (.tup (vI kk)) ∧ KRow es kk ∧
  ∀ (H' : Hp) (l : Addr) (as : List Addr) (ds : List (Int × Int)) (hT hP : Int → Int), Same H H' → H l = none → H' l = some (.lst (as.map V.ref)) → PairsAt H' as ds → DsOk es kk ds hT hP → Q (.ref l) H'
section
variable {P : Program} {w : World} {K : PySem.W.Frag} {mg : Str → Option Value} {base : Heap} {C : Addr}
theorem scDiff : FnScope ["machine", "knot", "there", "found", "event", "before", "after", "tries", "points"] ["machine", "knot"] (defScope sDiff) := ⟨rfl, rfl, rfl, by decide +kernel, rfl, by decide +kernel, by decide +kernel⟩
theorem c_diff (T : Txt mg) (M : TxtM K mg C) (cS : Cal P w K mg base 1 "step_at" ["machine", "event"] (spStepAt C)) (cI : Cal P w K mg base 1 "inner_events" ["machine", "knot"] (spInner C)) (cH : Cal P w K mg base 2 "heights" ["machine", "knot"] (spHeights C))
    (D : DefOf K mg "differences" sDiff ["machine", "knot"]) : Cal P w K mg base 3 "differences" ["machine", "knot"] (spDiff C) := by
  refine D.cal fun f fd F => F.ok scDiff (fun vs H Q E h => ?_) (fun cdv A outer s H vs Q E hr h => ?_)
  · obtain ⟨p, b, n, es, kk, rfl, _⟩ := h
    rfl
  · obtain ⟨p, b, n, es, kk, rfl, hM, ok, hb, hK, k⟩ := h
    have hu := hu_of hr
    have hlen := ok.len
    refine ⟨_, pss_cons (ps_set (i := 2) scDiff.nd rfl (.inl rfl) (pcal cH hr (pa_cons (pv 0) (pa_cons (pv 1) pa_nil))))
      (pss_cons (ps_set (i := 3) scDiff.nd rfl (.inl rfl) (pe_lst pa_nil))
      (pss_cons (ps_for PassesOwn.never rfl (pi_list (pcal cI hr (pa_cons (pv 0) (pa_cons (pv 1) pa_nil)))) (pg_name (i := 4) scDiff.nd rfl (.inl rfl))
        (pss_cons (ps_asg (pcal cS hr (pa_cons (pv 0) (pa_cons (pv 4) pa_nil))) (pg_tup rfl (pgs_cons (pg_name (i := 5) scDiff.nd rfl (.inl rfl)) (pgs_cons (pg_name (i := 6) scDiff.nd rfl (.inl rfl)) (pgs_cons (pg_name (i := 7) scDiff.nd rfl (.inl rfl)) (pgs_cons (pg_name (i := 8) scDiff.nd rfl (.inl rfl)) pgs_nil))))))
        (pss_one (ps_expr (pe_bm PySem.F.plainAttrs_list PySem.F.slot_list_append PySem.F.type_list_append mt_append (pv 3) (pa_cons (pe_tup (pa_cons
          (pe_op op_sub (pe_op op_add (pe_ix ix_tup (pe_dget hu (pv 2) (pv 5) (fun _ _ => rfl)) pe_int (fun _ _ => rfl)) (pv 7)) (pe_ix ix_tup (pe_dget hu (pv 2) (pv 6) (fun _ _ => rfl)) pe_int (fun _ _ => rfl))) (pa_cons
          (pe_op op_sub (pe_op op_add (pe_ix ix_tup (pe_dget hu (pv 2) (pv 5) (fun _ _ => rfl)) pe_int (fun _ _ => rfl)) (pv 8)) (pe_ix ix_tup (pe_dget hu (pv 2) (pv 6) (fun _ _ => rfl)) pe_int (fun _ _ => rfl))) pa_nil))) pa_nil))))))
      (pss_one (ps_ret (pv 3))))), ?_⟩
    refine ⟨_, rfl, _, rfl, p, b, n, es, kk, rfl, hM, ok, hb, hK, fun H1 d kvs hT hP sm1 nd hd hval hways hbd => ?_⟩
    refine ⟨Nat.zero_le _, fun l nl => ?_⟩
    have sm2 : Same H1 (upd H1 l (.lst [])) := same_new (Same.refl _) nl
    have nl0 : H l = none := sm1.free nl
    refine ⟨_, rfl, _, rfl, p, b, n, es, kk, rfl, hM.same (sm1.trans sm2), ok, (sm1.trans sm2) _ _ hb, fun H3 il sm3 nil hil => ⟨il, rfl, ⟨_, SqL.of hil⟩, for_list (K := K) (a := il) (xs := vN (inner es kk))
      (fun i σ H4 => ∃ (as : List Addr) (ds : List (Int × Int)) (v4 v5 v6 v7 v8 : Option V), σ = [some (.ref p), some (.ref b), some (.ref d), some (.ref l), v4, v5, v6, v7, v8] ∧ Same H1 H4 ∧ H4 il = some (.lst (vN (inner es kk))) ∧ H4 l = some (.lst (as.map V.ref)) ∧ PairsAt H4 as ds ∧ ds.length = i ∧
        (∀ x ∈ ds, Diff es (fun v => v ∈ kk) hT hP x.1 x.2) ∧ (∀ (j q : Nat) e, j < i → (inner es kk)[j]? = some q → es[q]? = some e → (hT e.b + e.t - hT e.a, hP e.b + e.p - hP e.a) ∈ ds) ∧ (∀ x ∈ ds, -24 ≤ x.1 ∧ x.1 ≤ 24 ∧ -60 ≤ x.2 ∧ x.2 ≤ 60))
      ⟨[], [], none, none, none, none, none, rfl, sm2.trans sm3, hil, sm3 _ _ upd_same, .nil, rfl, by simp, fun j q e hj => absurd hj (Nat.not_lt_zero _), by simp⟩ (fun i σ H4 _ ⟨_, _, _, _, _, _, _, _, _, g, _⟩ => SqL.of g) ?_ ?_⟩⟩
    · rintro i y σ H4 hi ⟨as, ds, v4, v5, v6, v7, v8, rfl, sm4, hi4, hl4, hp4, len4, sd4, al4, bd4⟩
      obtain ⟨q0, hq0, rfl⟩ := at_vN hi
      obtain ⟨e, he, hbk, hak⟩ := mem_inner.mp (List.mem_of_getElem? hq0)
      obtain ⟨c, hc1, hc2⟩ := hval e.b hbk
      obtain ⟨c', hc1', hc2'⟩ := hval e.a hak
      have hd4 := sm4 _ _ hd
      have g1 : DGet H4 d (kV (Sum.inl e.b)) (some (.ref c)) := by rw [← hc1]; exact DGet.k (k := Sum.inl e.b) hd4
      have g2 : DGet H4 d (kV (Sum.inl e.a)) (some (.ref c')) := by rw [← hc1']; exact DGet.k (k := Sum.inl e.a) hd4
      have t1 := SqT.of (K := K) (sm4 _ _ hc2)
      have t2 := SqT.of (K := K) (sm4 _ _ hc2')
      have hib : i < (inner es kk).length := (List.getElem?_eq_some_iff.mp hq0).1
      have hil6 : (inner es kk).length ≤ es.length := idx_len
      refine ⟨_, rfl, _, rfl, p, n, es, q0, e, rfl, hM.same (sm1.trans sm4), he, fun xa hxa => ?_⟩
      refine ⟨xa, _, rfl, SqT.of hxa, rfl, _, _, rfl, _, _, rfl, _, _, rfl, _, _, rfl, rfl, ?_⟩
      refine ⟨_, rfl, .inl ⟨rfl, _, SqL.of hl4⟩, ?_⟩
      refine ⟨_, rfl, _, rfl, d, .ref c, rfl, g1, _, _, _, _, rfl, rfl, t1, pat0, _, rfl, _, _, rfl, rfl, _, rfl, _, rfl, d, .ref c', rfl, g2, _, _, _, _, rfl, rfl, t2, pat0, _, _, rfl, rfl, ?_⟩
      refine ⟨_, rfl, _, rfl, d, .ref c, rfl, g1, _, _, _, _, rfl, rfl, t1, pat1, _, rfl, _, _, rfl, rfl, _, rfl, _, rfl, d, .ref c', rfl, g2, _, _, _, _, rfl, rfl, t2, pat1, _, _, rfl, rfl, (by show 2 ≤ sizeLine; decide), fun tn ntn => ?_⟩
      have nt : ∀ x o, H4 x = some o → (upd H4 tn (.tup [.int (hT e.b + e.t - hT e.a), .int (hP e.b + e.p - hP e.a)])) x = some o := fun x o z => by rw [upd_ne (ne_of_none z ntn)]; exact z
      refine ⟨l, _, _, rfl, rfl, nt _ _ hl4, small1000 (by rw [List.length_map, hp4.1]; omega), ?_⟩
      have il1 : il ≠ l := fun q => by rw [q, upd_same] at nil; cases nil
      have tl : tn ≠ l := fun q => by rw [q, hl4] at ntn; cases ntn
      have okE := ok.at he
      have o1 := okE.t1
      have o2 := okE.t3
      have o3 := okE.p0
      have o4 := okE.p6
      have hbb := hbd _ hbk
      have hba := hbd _ hak
      refine ⟨as ++ [tn], ds ++ [(hT e.b + e.t - hT e.a, hP e.b + e.p - hP e.a)], _, _, _, _, _, rfl, same_upd (same_new sm4 ntn) nl, by rw [upd_ne il1]; exact nt _ _ hi4, by rw [List.map_append]; exact upd_same, ?_, by rw [List.length_append, len4]; rfl, fun x hx => ?_, fun j q e' hj hq he' => ?_, fun x hx => ?_⟩
      · refine PairsAt.snoc (hp4.keep fun x xs z => ?_) ?_
        · rw [upd_ne (fun q => by rw [q, hl4] at z; cases z)]; exact nt _ _ z
        · rw [upd_ne tl]; exact upd_same
      · rcases List.mem_append.1 hx with hx | hx
        · exact sd4 x hx
        · rw [List.mem_singleton.mp hx]; exact ⟨q0, e, he, hbk, hak, rfl, rfl⟩
      · rcases Nat.lt_or_ge j i with z | z
        · exact List.mem_append_left _ (al4 j q e' z hq he')
        · have : j = i := by omega
          subst this
          rw [hq0] at hq
          cases hq
          rw [he] at he'
          cases he'
          exact List.mem_append_right _ (by simp)
      · rcases List.mem_append.1 hx with hx | hx
        · exact bd4 x hx
        · rw [List.mem_singleton.mp hx]
          show -24 ≤ hT e.b + e.t - hT e.a ∧ hT e.b + e.t - hT e.a ≤ 24 ∧ -60 ≤ hP e.b + e.p - hP e.a ∧ hP e.b + e.p - hP e.a ≤ 60
          omega
    · rintro σ H4 ⟨as, ds, v4, v5, v6, v7, v8, rfl, sm4, hi4, hl4, hp4, len4, sd4, al4, bd4⟩
      rw [vN_len] at len4 al4
      have hil6 : (inner es kk).length ≤ es.length := idx_len
      refine ⟨_, rfl, k H4 l as ds hT hP (sm1.trans sm4) nl0 hl4 hp4 ⟨sd4, fun x y hxy => ?_, hways, bd4, by omega⟩⟩
      obtain ⟨q, e, he, hb1, ha1, rfl, rfl⟩ := hxy
      have hm : q ∈ inner es kk := mem_inner.mpr ⟨e, he, hb1, ha1⟩
      obtain ⟨j, hj', hje⟩ := List.mem_iff_getElem.mp hm
      exact al4 j q e hj' (by rw [List.getElem?_eq_getElem hj', hje]) he
end
end Nv

/-! Plain mathematics: a pair more is taken into a base, by Euclid's rests. -/
namespace Nv
theorem gcd_span {G : Int → Int → Prop} : ∀ (m n : Nat), Span G 0 (m : Int) → Span G 0 (n : Int) → Span G 0 ((Nat.gcd m n : Nat) : Int) := by
  intro m
  refine Nat.strongRecOn m ?_
  · intro m ih n hm hn
    rcases Nat.eq_zero_or_pos m with z | z
    · subst z
      rw [Nat.gcd_zero_left]
      exact hn
    · rw [Nat.gcd_rec]
      refine ih (n % m) (Nat.mod_lt n z) m ((hn.sub (hm.mul ((n / m : Nat) : Int))).cast (by omega) ?_) hm
      have e : ((n % m : Nat) : Int) + ((n / m : Nat) : Int) * (m : Int) = (n : Int) := by
        rw [Int.mul_comm]
        have := Nat.mod_add_div n m
        exact_mod_cast this
      omega
theorem abs_span {G : Int → Int → Prop} {a : Int} (h : Span G 0 a) : Span G 0 (a.natAbs : Int) := by
  rcases Int.natAbs_eq a with e | e
  · exact h.cast rfl e
  · exact h.neg.cast (by omega) (by omega)
theorem gcdI_span {G : Int → Int → Prop} {a b : Int} (ha : Span G 0 a) (hb : Span G 0 b) : Span G 0 ((Int.gcd a b : Nat) : Int) := gcd_span _ _ (abs_span ha) (abs_span hb)
theorem Lat.mul {w x y a b : Int} (h : Lat w x y a b) (n : Int) : Lat w x y (n * a) (n * b) := by
  obtain ⟨i, j, rfl, rfl⟩ := h
  exact ⟨n * i, n * j, by grind, by grind⟩
def Comb (o1 o2 p1 p2 a c : Int) : Prop := ∃ i j : Int, a = i * o1 + j * p1 ∧ c = i * o2 + j * p2
/-- between two turns of Euclid's loop -/
structure Euc (w x a c o1 o2 p1 p2 : Int) : Prop where
  sp : ∀ G, Span G w x → Span G a c → Span G o1 o2 ∧ Span G p1 p2
  c1 : Comb o1 o2 p1 p2 w x
  c2 : Comb o1 o2 p1 p2 a c
  bo : -63 ≤ o1 ∧ o1 ≤ 63
  bp : -63 ≤ p1 ∧ p1 ≤ 63
theorem Euc.start {w x a c : Int} (h1 : -63 ≤ w ∧ w ≤ 63) (h2 : -63 ≤ a ∧ a ≤ 63) : Euc w x a c w x a c :=
  ⟨fun _ s t => ⟨s, t⟩, ⟨1, 0, by grind, by grind⟩, ⟨0, 1, by grind, by grind⟩, h1, h2⟩
theorem fmod_small {a b : Int} (hb : b ≠ 0) : (a - a.fdiv b * b).natAbs < b.natAbs := by
  have e : a - a.fdiv b * b = a.fmod b := by rw [Int.fmod_def, Int.mul_comm]
  rw [e, Int.fmod_eq_emod]
  have h1 := Int.emod_nonneg a hb
  have h2 := Int.emod_lt_of_pos a (b := (b.natAbs : Int)) (by omega)
  have h3 : a % (b.natAbs : Int) = a % b := by
    rcases Int.natAbs_eq b with z | z
    · rw [← z]
    · conv => rhs; rw [z, Int.emod_neg]
  rw [h3] at h2
  split
  · omega
  · rename_i hn
    have hneg : b < 0 := by
      rcases Int.lt_or_le b 0 with z | z
      · exact z
      · exact absurd (.inl z) hn
    have hne : a % b ≠ 0 := fun z => hn (.inr (Int.dvd_of_emod_eq_zero z))
    omega
theorem fdiv_small {a b : Int} : (a.fdiv b).natAbs ≤ a.natAbs + 1 := by
  rw [Int.fdiv_eq_ediv]
  have := Int.natAbs_ediv_le_natAbs a b
  split <;> omega
theorem Euc.step {w x a c o1 o2 p1 p2 : Int} (h : Euc w x a c o1 o2 p1 p2) (hp : p1 ≠ 0) : Euc w x a c p1 p2 (o1 - o1.fdiv p1 * p1) (o2 - o1.fdiv p1 * p2) := by
  have hb := fmod_small (a := o1) hp
  have hbp := h.bp
  refine ⟨fun G s t => ?_, ?_, ?_, h.bp, by omega⟩
  · obtain ⟨s1, s2⟩ := h.sp G s t
    exact ⟨s2, s1.sub (s2.mul _)⟩
  · obtain ⟨i, j, e, f⟩ := h.c1
    exact ⟨j + i * o1.fdiv p1, i, by rw [e]; grind, by rw [f]; grind⟩
  · obtain ⟨i, j, e, f⟩ := h.c2
    exact ⟨j + i * o1.fdiv p1, i, by rw [e]; grind, by rw [f]; grind⟩
/-- (w', x'), (0, y') are a base of what (w, x), (0, y), (a, c) span, in the form that is told -/
structure TakenIn (w x y a c w' x' y' : Int) : Prop where
  w0 : 0 ≤ w'
  w63 : w' ≤ 63
  y0 : 0 ≤ y'
  xy : 0 < y' → 0 ≤ x' ∧ x' < y'
  l1 : Lat w' x' y' w x
  l2 : Lat w' x' y' 0 y
  l3 : Lat w' x' y' a c
  sp : ∀ G, Span G w x → Span G 0 y → Span G a c → Span G w' x' ∧ Span G 0 y'
theorem TakenIn.mk' {w x y a c o1 o2 p2 s1 s2 : Int} (h : Euc w x a c o1 o2 0 p2) (hs : (s1 = o1 ∧ s2 = o2) ∨ (s1 = -o1 ∧ s2 = -o2)) (h0 : 0 ≤ s1) :
    TakenIn w x y a c s1 (if 0 < ((Int.gcd y p2 : Nat) : Int) then s2 % ((Int.gcd y p2 : Nat) : Int) else s2) ((Int.gcd y p2 : Nat) : Int) := by
  generalize hg : ((Int.gcd y p2 : Nat) : Int) = g
  have g0 : 0 ≤ g := by rw [← hg]; exact Int.natCast_nonneg _
  have gy : g ∣ y := by rw [← hg]; exact Int.gcd_dvd_left ..
  have gp : g ∣ p2 := by rw [← hg]; exact Int.gcd_dvd_right ..
  have hx : ∃ m : Int, s2 = (if 0 < g then s2 % g else s2) + m * g := by
    by_cases z : 0 < g
    · rw [if_pos z]
      exact ⟨s2 / g, by rw [Int.mul_comm]; exact (Int.emod_add_mul_ediv s2 g).symm⟩
    · rw [if_neg z]
      exact ⟨0, by omega⟩
  obtain ⟨m, hm⟩ := hx
  generalize hX : (if 0 < g then s2 % g else s2) = X at hm
  have lo : Lat s1 X g o1 o2 := by
    have ls : Lat s1 X g s1 s2 := ⟨1, m, by grind, by grind⟩
    rcases hs with ⟨e, f⟩ | ⟨e, f⟩
    · rw [e, f] at ls; rw [e]; exact ls
    · have := ls.neg
      rw [show -s1 = o1 by omega, show -s2 = o2 by omega] at this
      exact this
  have lp : Lat s1 X g 0 p2 := by
    obtain ⟨k, hk⟩ := gp
    exact ⟨0, k, by grind, by rw [hk]; grind⟩
  have comb : ∀ {u v : Int}, Comb o1 o2 0 p2 u v → Lat s1 X g u v := fun {u v} hc => by
    obtain ⟨i, j, e, f⟩ := hc
    have := (lo.mul i).add (lp.mul j)
    rw [e, f]
    exact this
  have hbo := h.bo
  refine ⟨h0, by omega, g0, fun z => ?_, comb h.c1, ?_, comb h.c2, fun G q1 q2 q3 => ?_⟩
  · rw [← hX, if_pos z]
    exact ⟨Int.emod_nonneg _ (by omega), Int.emod_lt_of_pos _ z⟩
  · obtain ⟨k, hk⟩ := gy
    exact ⟨0, k, by grind, by rw [hk]; grind⟩
  · obtain ⟨t1, t2⟩ := h.sp G q1 q3
    have tg : Span G 0 g := by rw [← hg]; exact gcdI_span q2 t2
    refine ⟨?_, tg⟩
    have ts : Span G s1 s2 := by
      rcases hs with ⟨e, f⟩ | ⟨e, f⟩
      · rw [e, f]; exact t1
      · rw [e, f]; exact t1.neg
    exact (ts.sub (tg.mul m)).cast (by omega) (by omega)
end Nv

/-! taken_in, net_of, net, area. -/
namespace Nv
open PySem L2
abbrev sTakenIn : Stmt := top 26
abbrev sNetOf : Stmt := top 27
abbrev sNet : Stmt := top 28
abbrev sArea : Stmt := top 29
def spTakenIn : Sp := fun vs H Q _ => ∃ (b q : Addr) (w x y a c : Int), vs = [.ref b, .ref q] ∧ H b = some (.tup [.int w, .int x, .int y]) ∧ H q = some (.tup [.int a, .int c]) ∧ (-63 ≤ w ∧ w ≤ 63) ∧ (-63 ≤ a ∧ a ≤ 63) ∧
  ∀ (H' : Hp) (t : Addr) (w' x' y' : Int), Same H H' → H t = none → H' t = some (.tup [.int w', .int x', .int y']) → TakenIn w x y a c w' x' y' → Q (.ref t) H'
theorem tat0 {a b c : V} : atI [a, b, c] 0 = some a := at_of (j := 0) rfl rfl
theorem tat1 {a b c : V} : atI [a, b, c] 1 = some b := at_of (j := 1) rfl rfl
theorem tat2 {a b c : V} : atI [a, b, c] 2 = some c := at_of (j := 2) rfl rfl
/-- what net tells of the base (w, x), (0, y) -/
def ToldAt (H : Hp) (t : Addr) (w x y : Int) : Prop :=
  (w = 0 ∧ H t = some (.tup [])) ∨ (w ≠ 0 ∧ y = 0 ∧ ∃ p, H t = some (.tup [.ref p]) ∧ H p = some (.tup [.int w, .int x])) ∨
  (w ≠ 0 ∧ y ≠ 0 ∧ ∃ p q, H t = some (.tup [.ref p, .ref q]) ∧ H p = some (.tup [.int w, .int x]) ∧ H q = some (.tup [.int 0, .int y]))
theorem ToldAt.same {H H' : Hp} {t : Addr} {w x y : Int} (h : ToldAt H t w x y) (s : Same H H') : ToldAt H' t w x y := by
  rcases h with ⟨a, b⟩ | ⟨a, b, p, c, d⟩ | ⟨a, b, p, q, c, d, e⟩
  · exact .inl ⟨a, s _ _ b⟩
  · exact .inr (.inl ⟨a, b, p, s _ _ c, s _ _ d⟩)
  · exact .inr (.inr ⟨a, b, p, q, s _ _ c, s _ _ d, s _ _ e⟩)
def spNetOf (C : Addr) : Sp := fun vs H Q _ => ∃ (p b : Addr) (n : Int) (es : List Ev) (kk : List Int), vs = [.ref p, .ref b] ∧ MachAt C H p n es ∧ OkParts n es ∧ H b = some (.tup (vI kk)) ∧ KRow es kk ∧
  ∀ (H' : Hp) (t : Addr) (w x y : Int), Same H H' → ToldAt H' t w x y → NetOk es (fun v => v ∈ kk) w x y → w ≤ 63 → Q (.ref t) H'
def spNet (C : Addr) : Sp := fun vs H Q _ => ∃ (p : Addr) (n : Int) (es : List Ev) (s : Int), vs = [.ref p, .int s] ∧ MachAt C H p n es ∧ OkParts n es ∧ Reach es 0 s ∧
  ∀ (H' : Hp) (t : Addr) (w x y : Int), Same H H' → ToldAt H' t w x y → NetOk es (Knot es s) w x y → w ≤ 63 → Q (.ref t) H'
def spArea (C : Addr) : Sp := fun vs H Q _ => ∃ (p : Addr) (n : Int) (es : List Ev) (s : Int), vs = [.ref p, .int s] ∧ MachAt C H p n es ∧ OkParts n es ∧ Reach es 0 s ∧
  ∀ (H' : Hp) (w x y : Int), Same H H' → NetOk es (Knot es s) w x y → Q (.int (w * y)) H'
/-- behind some pairs -/
structure BaseOk (ds : List (Int × Int)) (w x y : Int) : Prop where
  w0 : 0 ≤ w
  w63 : w ≤ 63
  y0 : 0 ≤ y
  xy : 0 < y → 0 ≤ x ∧ x < y
  lat : ∀ d ∈ ds, Lat w x y d.1 d.2
  s1 : Span (fun a b => (a, b) ∈ ds) w x
  s2 : Span (fun a b => (a, b) ∈ ds) 0 y
theorem Lat.trans {w x y w' x' y' a b : Int} (h : Lat w x y a b) (h1 : Lat w' x' y' w x) (h2 : Lat w' x' y' 0 y) : Lat w' x' y' a b := by
  obtain ⟨i, j, e, f⟩ := h
  have := (h1.mul i).add (h2.mul j)
  rw [Int.mul_zero, Int.add_zero, ← e, ← f] at this
  exact this
theorem BaseOk.more {ds : List (Int × Int)} {w x y : Int} {d : Int × Int} {w' x' y' : Int} (h : BaseOk ds w x y) (t : TakenIn w x y d.1 d.2 w' x' y') : BaseOk (ds ++ [d]) w' x' y' := by
  have up : ∀ {a b : Int}, Span (fun a b => (a, b) ∈ ds) a b → Span (fun a b => (a, b) ∈ ds ++ [d]) a b := fun s => s.mono fun a b m => List.mem_append_left _ m
  obtain ⟨s1, s2⟩ := t.sp _ (up h.s1) (up h.s2) (Span.gen (List.mem_append_right _ (by simp)))
  refine ⟨t.w0, t.w63, t.y0, t.xy, fun e he => ?_, s1, s2⟩
  rcases List.mem_append.1 he with he | he
  · exact (h.lat e he).trans t.l1 t.l2
  · rw [List.mem_singleton.mp he]; exact t.l3
section
variable {P : Program} {w : World} {K : PySem.W.Frag} {mg : Str → Option Value} {base : Heap} {C : Addr}
/-- t[i], t the tuple in slot n -/
theorem pix {X : Cx} (n : Nat) {i : Int} {x : Str} {p1 p2 pos : Pos} {j : Nat} (hN : X.N[n]? = some x := by rfl) (hv : Vis X.env.scope x := by first | exact Or.inl rfl | exact Or.inr (Or.inl rfl) | exact Or.inr (Or.inr rfl)) (hd : (x == ("__debug__" : Str)) = false := by decide)
    (hcd : (x == ("__classdict__" : Str)) = false := by decide) : PE X (.Subscript (.Name x p1) (.Constant (.int i) j p2) pos) (tOp (rIxT X.K) (tVar n) (tC (.int i))) :=
  pe_ix ix_tup (pv n hN hv hd hcd) pe_int (fun _ _ => rfl)
theorem scTakenIn : FnScope ["base", "pair", "one", "other", "times", "step"] ["base", "pair"] (defScope sTakenIn) := ⟨rfl, rfl, rfl, by decide +kernel, rfl, by decide +kernel, by decide +kernel⟩
theorem c_taken_in (T : Txt mg) (cC : Cal P w K mg base 1 "common_divisor" ["one", "other"] spCommon) (D : DefOf K mg "taken_in" sTakenIn ["base", "pair"]) : Cal P w K mg base 2 "taken_in" ["base", "pair"] spTakenIn := by
  refine D.cal fun f fd F => F.ok scTakenIn (fun vs H Q E h => ?_) (fun cdv A outer s H vs Q E hr h => ?_)
  · obtain ⟨b, q, w, x, y, a, c, rfl, _⟩ := h
    rfl
  · obtain ⟨b, q, w, x, y, a, c, rfl, hb, hq, bw, ba, k⟩ := h
    refine ⟨_, pss_cons (ps_set (i := 2) scTakenIn.nd rfl (.inl rfl) (pe_tup (pa_cons (pix 0) (pa_cons (pix 0) pa_nil))))
      (pss_cons (ps_set (i := 3) scTakenIn.nd rfl (.inl rfl) (pv 1))
      (pss_cons (ps_while PassesOwn.never (pt_cmpR op_ne (pix 3) pe_int (nomark _))
        (pss_cons (ps_set (i := 4) scTakenIn.nd rfl (.inl rfl) (pe_op op_fdivN (pix 2) (pix 3)))
        (pss_one (ps_par (i := 2) (j := 3) (by rfl) scTakenIn.nd rfl rfl (by decide) rfl rfl (pa_cons (pv 3) (pa_cons (pe_tup (pa_cons (pe_op op_sub (pix 2) (pe_op op_mul (pv 4) (pix 3))) (pa_cons (pe_op op_sub (pix 2) (pe_op op_mul (pv 4) (pix 3))) pa_nil))) pa_nil)) (by rfl)))))
      (pss_cons (ps_set (i := 5) scTakenIn.nd rfl (.inl rfl) (pcal cC hr (pa_cons (pix 0) (pa_cons (pix 3) pa_nil))))
      (pss_cons (ps_if (pt_cmpR op_lt (pix 2) pe_int (nomark _)) (pss_one (ps_set (i := 2) scTakenIn.nd rfl (.inl rfl) (pe_tup (pa_cons (pe_un un_neg (pix 2)) (pa_cons (pe_un un_neg (pix 2)) pa_nil))))) pss_nil)
      (pss_cons (ps_if (pt_cmpR op_gt (pv 5) pe_int (nomark _)) (pss_one (ps_set (i := 2) scTakenIn.nd rfl (.inl rfl) (pe_tup (pa_cons (pix 2) (pa_cons (pe_op op_mod (pix 2) (pv 5)) pa_nil))))) pss_nil)
      (pss_one (ps_ret (pe_tup (pa_cons (pix 2) (pa_cons (pix 2) (pa_cons (pv 5) pa_nil))))))))))), ?_⟩
    refine ⟨_, rfl, b, _, _, _, rfl, rfl, SqT.of hb, tat0, _, rfl, b, _, _, _, rfl, rfl, SqT.of hb, tat1, (by show 2 ≤ sizeLine; decide), fun o0 no0 => ?_⟩
    refine ⟨_, rfl, ?_⟩
    refine ⟨fun m σ H' => ∃ (o p : Addr) (o1 o2 p1 p2 : Int) (v4 : Option V), σ = [some (.ref b), some (.ref q), some (.ref o), some (.ref p), v4, none] ∧ Same H H' ∧ H' o = some (.tup [.int o1, .int o2]) ∧ H' p = some (.tup [.int p1, .int p2]) ∧ Euc w x a c o1 o2 p1 p2 ∧ p1.natAbs = m,
      ⟨_, o0, q, w, x, a, c, none, rfl, same_new (Same.refl _) no0, upd_same, same_new (Same.refl _) no0 _ _ hq, Euc.start bw ba, rfl⟩, ?_⟩
    rintro m σ H1 ⟨o, p, o1, o2, p1, p2, v4, rfl, sm, ho, hp, eu, rfl⟩
    have bo := eu.bo
    have bp := eu.bp
    refine ⟨_, rfl, p, _, _, _, rfl, rfl, SqT.of hp, pat0, rfl, _, rfl, ?_⟩
    rw [dec_int]
    by_cases hz : p1 = 0
    · rw [show (p1 == 0) = true from beq_iff_eq.mpr hz]
      refine iteF ?_
      subst hz
      refine ⟨_, rfl, b, _, _, _, rfl, rfl, SqT.of (sm _ _ hb), tat2, _, rfl, p, _, _, _, rfl, rfl, SqT.of hp, pat1, y, p2, rfl, ?_⟩
      generalize hg : ((Int.gcd y p2 : Nat) : Int) = g
      -- the end, from the pair that stands
      have fin : ∀ (H2 : Hp) (t : Addr) (s1 s2 X : Int), Same H H2 → H2 t = none → ((s1 = o1 ∧ s2 = o2) ∨ (s1 = -o1 ∧ s2 = -o2)) → 0 ≤ s1 → X = (if 0 < g then s2 % g else s2) → Q (.ref t) (upd H2 t (.tup [.int s1, .int X, .int g])) := fun H2 t s1 s2 X sm2 nt hs h0 hX => by
        refine k _ t s1 X g (same_new sm2 nt) (sm2.free nt) upd_same ?_
        have := TakenIn.mk' (y := y) eu hs h0
        rw [hg] at this
        rw [hX]
        exact this
      refine ⟨_, rfl, o, _, _, _, rfl, rfl, SqT.of ho, pat0, _, _, rfl, rfl, _, rfl, ite2 (fun hneg => ?_) (fun hneg => ?_)⟩
      · have hneg' : o1 < 0 := of_decide_eq_true hneg
        refine ⟨_, rfl, o, _, _, _, rfl, rfl, SqT.of ho, pat0, _, rfl, _, rfl, o, _, _, _, rfl, rfl, SqT.of ho, pat1, _, rfl, (by show 2 ≤ sizeLine; decide), fun n1 nn1 => ?_⟩
        have smA := same_new (o := .tup [.int (-o1), .int (-o2)]) sm nn1
        have hn1 : (upd H1 n1 (.tup [.int (-o1), .int (-o2)])) n1 = some (.tup [.int (-o1), .int (-o2)]) := upd_same
        refine ⟨_, rfl, _, _, rfl, rfl, _, rfl, ite2 (fun hg0 => ?_) (fun hg0 => ?_)⟩
        · have hg0' : 0 < g := of_decide_eq_true hg0
          refine ⟨_, rfl, n1, _, _, _, rfl, rfl, SqT.of hn1, pat0, _, rfl, n1, _, _, _, rfl, rfl, SqT.of hn1, pat1, _, rfl, _, _, rfl, rfl, hg0', (by show 2 ≤ sizeLine; decide), fun n2 nn2 => ?_⟩
          have smB := same_new (o := .tup [.int (-o1), .int (-o2 % g)]) smA nn2
          have hn2 : (upd (upd H1 n1 (.tup [.int (-o1), .int (-o2)])) n2 (.tup [.int (-o1), .int (-o2 % g)])) n2 = some (.tup [.int (-o1), .int (-o2 % g)]) := upd_same
          exact ⟨_, rfl, n2, _, _, _, rfl, rfl, SqT.of hn2, pat0, _, rfl, n2, _, _, _, rfl, rfl, SqT.of hn2, pat1, _, rfl, (by show 3 ≤ sizeLine; decide), fun t nt => fin _ t _ (-o2) _ smB nt (.inr ⟨rfl, rfl⟩) (by omega) (if_pos hg0').symm⟩
        · have hg0' : ¬ 0 < g := fun z => hg0 (decide_eq_true z)
          exact ⟨_, rfl, n1, _, _, _, rfl, rfl, SqT.of hn1, pat0, _, rfl, n1, _, _, _, rfl, rfl, SqT.of hn1, pat1, _, rfl, (by show 3 ≤ sizeLine; decide), fun t nt => fin _ t _ (-o2) _ smA nt (.inr ⟨rfl, rfl⟩) (by omega) (if_neg hg0').symm⟩
      · have hneg' : ¬ o1 < 0 := fun z => hneg (decide_eq_true z)
        refine ⟨_, rfl, _, _, rfl, rfl, _, rfl, ite2 (fun hg0 => ?_) (fun hg0 => ?_)⟩
        · have hg0' : 0 < g := of_decide_eq_true hg0
          refine ⟨_, rfl, o, _, _, _, rfl, rfl, SqT.of ho, pat0, _, rfl, o, _, _, _, rfl, rfl, SqT.of ho, pat1, _, rfl, _, _, rfl, rfl, hg0', (by show 2 ≤ sizeLine; decide), fun n2 nn2 => ?_⟩
          have smB := same_new (o := .tup [.int o1, .int (o2 % g)]) sm nn2
          have hn2 : (upd H1 n2 (.tup [.int o1, .int (o2 % g)])) n2 = some (.tup [.int o1, .int (o2 % g)]) := upd_same
          exact ⟨_, rfl, n2, _, _, _, rfl, rfl, SqT.of hn2, pat0, _, rfl, n2, _, _, _, rfl, rfl, SqT.of hn2, pat1, _, rfl, (by show 3 ≤ sizeLine; decide), fun t nt => fin _ t _ o2 _ smB nt (.inl ⟨rfl, rfl⟩) (by omega) (if_pos hg0').symm⟩
        · have hg0' : ¬ 0 < g := fun z => hg0 (decide_eq_true z)
          exact ⟨_, rfl, o, _, _, _, rfl, rfl, SqT.of ho, pat0, _, rfl, o, _, _, _, rfl, rfl, SqT.of ho, pat1, _, rfl, (by show 3 ≤ sizeLine; decide), fun t nt => fin _ t _ o2 _ sm nt (.inl ⟨rfl, rfl⟩) (by omega) (if_neg hg0').symm⟩
    · rw [show (p1 == 0) = false from beq_eq_false_iff_ne.mpr hz]
      refine iteT ⟨_, fun σ' H' z => z, ?_⟩
      have ht := fdiv_small (a := o1) (b := p1)
      have hcm : CMul (o1.fdiv p1) p1 := .inl ⟨by omega, by omega⟩
      have hcm2 : CMul (o1.fdiv p1) p2 := .inl ⟨by omega, by omega⟩
      refine ⟨_, rfl, o, _, _, _, rfl, rfl, SqT.of ho, pat0, _, rfl, p, _, _, _, rfl, rfl, SqT.of hp, pat0, _, _, rfl, rfl, ⟨hz, by omega⟩, ?_⟩
      refine ⟨_, rfl, ?_⟩
      refine ⟨_, rfl, o, _, _, _, rfl, rfl, SqT.of ho, pat0, _, rfl, _, rfl, p, _, _, _, rfl, rfl, SqT.of hp, pat0, _, _, rfl, rfl, hcm, _, _, rfl, rfl, ?_⟩
      refine ⟨_, rfl, o, _, _, _, rfl, rfl, SqT.of ho, pat1, _, rfl, _, rfl, p, _, _, _, rfl, rfl, SqT.of hp, pat1, _, _, rfl, rfl, hcm2, _, _, rfl, rfl, (by show 2 ≤ sizeLine; decide), fun n1 nn1 => ?_⟩
      exact ⟨_, _, rfl, _, fmod_small hz, p, n1, p1, p2, _, _, _, rfl, same_new sm nn1, by rw [upd_ne (ne_of_none hp nn1)]; exact hp, upd_same, eu.step hz, rfl⟩
theorem scNetOf : FnScope ["machine", "knot", "base", "pair"] ["machine", "knot"] (defScope sNetOf) := ⟨rfl, rfl, rfl, by decide +kernel, rfl, by decide +kernel, by decide +kernel⟩
theorem c_net_of (T : Txt mg) (M : TxtM K mg C) (cD : Cal P w K mg base 3 "differences" ["machine", "knot"] (spDiff C)) (cT : Cal P w K mg base 2 "taken_in" ["base", "pair"] spTakenIn) (D : DefOf K mg "net_of" sNetOf ["machine", "knot"]) :
    Cal P w K mg base 4 "net_of" ["machine", "knot"] (spNetOf C) := by
  refine D.cal fun f fd F => F.ok scNetOf (fun vs H Q E h => ?_) (fun cdv A outer s H vs Q E hr h => ?_)
  · obtain ⟨p, b, n, es, kk, rfl, _⟩ := h
    rfl
  · obtain ⟨p, b, n, es, kk, rfl, hM, ok, hb, hK, k⟩ := h
    refine ⟨_, pss_cons (ps_set (i := 2) scNetOf.nd rfl (.inl rfl) (pe_tup (pa_cons pe_int (pa_cons pe_int (pa_cons pe_int pa_nil)))))
      (pss_cons (ps_for PassesOwn.never rfl (pi_list (pcal cD hr (pa_cons (pv 0) (pa_cons (pv 1) pa_nil)))) (pg_name (i := 3) scNetOf.nd rfl (.inl rfl))
        (pss_one (ps_set (i := 2) scNetOf.nd rfl (.inl rfl) (pcal cT hr (pa_cons (pv 2) (pa_cons (pv 3) pa_nil))))))
      (pss_cons (ps_if (pt_cmpR op_eq (pix 2) pe_int (nomark _)) (pss_one (ps_ret (pe_tup pa_nil))) pss_nil)
      (pss_cons (ps_if (pt_cmpR op_eq (pix 2) pe_int (nomark _)) (pss_one (ps_ret (pe_tup (pa_cons (pe_tup (pa_cons (pix 2) (pa_cons (pix 2) pa_nil))) pa_nil)))) pss_nil)
      (pss_one (ps_ret (pe_tup (pa_cons (pe_tup (pa_cons (pix 2) (pa_cons (pix 2) pa_nil))) (pa_cons (pe_tup (pa_cons pe_int (pa_cons (pix 2) pa_nil))) pa_nil)))))))), ?_⟩
    refine ⟨by show 3 ≤ sizeLine; decide, fun b0 nb0 => ?_⟩
    have sm0 := same_new (o := .tup [.int 0, .int 0, .int 0]) (Same.refl H) nb0
    refine ⟨_, rfl, _, rfl, p, b, n, es, kk, rfl, hM.same sm0, ok, sm0 _ _ hb, hK, fun H1 l as ds hT hP sm1 nl hl hp ds_ok => ⟨l, rfl, ⟨_, SqL.of hl⟩, for_list (K := K) (a := l) (xs := as.map V.ref)
      (fun i σ H2 => ∃ (bt : Addr) (w x y : Int) (v3 : Option V), σ = [some (.ref p), some (.ref b), some (.ref bt), v3] ∧ Same H1 H2 ∧ H2 bt = some (.tup [.int w, .int x, .int y]) ∧ BaseOk (ds.take i) w x y)
      ⟨b0, 0, 0, 0, none, rfl, Same.refl _, sm1 _ _ upd_same, ⟨by omega, by omega, by omega, fun z => absurd z (by omega), by simp, .zero, .zero⟩⟩ (fun i σ H2 _ ⟨_, _, _, _, _, _, g, _⟩ => SqL.of (g _ _ hl)) ?_ ?_⟩⟩
    · rintro i z σ H2 hi ⟨bt, w, x, y, v3, rfl, sm2, hbt, bk⟩
      obtain ⟨c, hc, rfl⟩ := at_ref hi
      have hids : i < ds.length := by rw [← hp.1]; exact (List.getElem?_eq_some_iff.mp hc).1
      obtain ⟨d, hd⟩ := get_some hids
      obtain ⟨c', hc1, hc2⟩ := hp.2 i d hd
      rw [hc] at hc1
      cases hc1
      have hbd := ds_ok.bd d (List.mem_of_getElem? hd)
      have hw0 := bk.w0
      have hw63 := bk.w63
      refine ⟨_, rfl, _, rfl, bt, c, w, x, y, d.1, d.2, rfl, hbt, sm2 _ _ hc2, ⟨by omega, by omega⟩, ⟨by omega, by omega⟩, fun H3 t w' x' y' sm3 nt ht tk => ?_⟩
      exact ⟨t, w', x', y', _, rfl, sm2.trans sm3, ht, by rw [take_snoc hd]; exact bk.more tk⟩
    · rintro σ H2 ⟨bt, w, x, y, v3, rfl, sm2, hbt, bk⟩
      rw [List.length_map, hp.1, List.take_length] at bk
      have smA : Same H H2 := (sm0.trans sm1).trans sm2
      have net : NetOk es (fun v => v ∈ kk) w x y := ⟨bk.w0, bk.y0, bk.xy, hT, hP, kk.headD 0, headD_mem hK.ne, ds_ok.hh, bk.s1.mono fun a b m => ds_ok.some (a, b) m, bk.s2.mono fun a b m => ds_ok.some (a, b) m, fun a b d => bk.lat (a, b) (ds_ok.all a b d)⟩
      refine ⟨_, rfl, bt, _, _, _, rfl, rfl, SqT.of hbt, tat0, rfl, _, rfl, ?_⟩
      rw [dec_int]
      by_cases hw : w = 0
      · rw [show (w == 0) = true from beq_iff_eq.mpr hw]
        exact iteT ⟨Nat.zero_le _, fun t nt => k _ t w x y (same_new smA nt) (.inl ⟨hw, upd_same⟩) net bk.w63⟩
      · rw [show (w == 0) = false from beq_eq_false_iff_ne.mpr hw]
        refine iteF ⟨_, rfl, bt, _, _, _, rfl, rfl, SqT.of hbt, tat2, rfl, _, rfl, ?_⟩
        rw [dec_int]
        by_cases hy : y = 0
        · rw [show (y == 0) = true from beq_iff_eq.mpr hy]
          refine iteT ⟨_, rfl, bt, _, _, _, rfl, rfl, SqT.of hbt, tat0, _, rfl, bt, _, _, _, rfl, rfl, SqT.of hbt, tat1, (by show 2 ≤ sizeLine; decide), fun q nq => ⟨(by show 1 ≤ sizeLine; decide), fun t nt => ?_⟩⟩
          have hq : (upd (upd H2 q (.tup [.int w, .int x])) t (.tup [.ref q])) q = some (.tup [.int w, .int x]) := by rw [upd_ne (ne_of_none upd_same nt)]; exact upd_same
          exact k _ t w x y (same_new (same_new smA nq) nt) (.inr (.inl ⟨hw, hy, q, upd_same, hq⟩)) net bk.w63
        · rw [show (y == 0) = false from beq_eq_false_iff_ne.mpr hy]
          refine iteF ⟨_, rfl, bt, _, _, _, rfl, rfl, SqT.of hbt, tat0, _, rfl, bt, _, _, _, rfl, rfl, SqT.of hbt, tat1, (by show 2 ≤ sizeLine; decide), fun q nq => ?_⟩
          have hbt2 : (upd H2 q (.tup [.int w, .int x])) bt = some (.tup [.int w, .int x, .int y]) := by rw [upd_ne (ne_of_none hbt nq)]; exact hbt
          refine ⟨_, rfl, bt, _, _, _, rfl, rfl, SqT.of hbt2, tat2, (by show 2 ≤ sizeLine; decide), fun r nr => ⟨(by show 2 ≤ sizeLine; decide), fun t nt => ?_⟩⟩
          have hr1 : (upd (upd (upd H2 q (.tup [.int w, .int x])) r (.tup [.int 0, .int y])) t (.tup [.ref q, .ref r])) r = some (.tup [.int 0, .int y]) := by rw [upd_ne (ne_of_none upd_same nt)]; exact upd_same
          have hq0 : (upd (upd H2 q (.tup [.int w, .int x])) r (.tup [.int 0, .int y])) q = some (.tup [.int w, .int x]) := by rw [upd_ne (ne_of_none upd_same nr)]; exact upd_same
          have hq1 : (upd (upd (upd H2 q (.tup [.int w, .int x])) r (.tup [.int 0, .int y])) t (.tup [.ref q, .ref r])) q = some (.tup [.int w, .int x]) := by rw [upd_ne (ne_of_none hq0 nt)]; exact hq0
          exact k _ t w x y (same_new (same_new (same_new smA nq) nr) nt) (.inr (.inr ⟨hw, hy, q, r, upd_same, hq1, hr1⟩)) net bk.w63
theorem scNet : FnScope ["machine", "standing", "knots_there"] ["machine", "standing"] (defScope sNet) := ⟨rfl, rfl, rfl, by decide +kernel, rfl, by decide +kernel, by decide +kernel⟩
theorem c_net (T : Txt mg) (M : TxtM K mg C) (cK : Cal P w K mg base 5 "knot_of" ["machine"] (spKnotOf C)) (cS : Cal P w K mg base 1 "check_standing" ["machine", "thing", "knots_there"] spCheckStanding) (cN : Cal P w K mg base 4 "net_of" ["machine", "knot"] (spNetOf C))
    (D : DefOf K mg "net" sNet ["machine", "standing"]) : Cal P w K mg base 6 "net" ["machine", "standing"] (spNet C) := by
  refine D.cal fun f fd F => F.ok scNet (fun vs H Q E h => ?_) (fun cdv A outer s H vs Q E hr h => ?_)
  · obtain ⟨p, n, es, s, rfl, _⟩ := h
    rfl
  · obtain ⟨p, n, es, s, rfl, hM, ok, hs, k⟩ := h
    have hu := hu_of hr
    refine ⟨_, pss_cons (ps_set (i := 2) scNet.nd rfl (.inl rfl) (pcal cK hr (pa_cons (pv 0) pa_nil)))
      (pss_cons (ps_expr (pcal cS hr (pa_cons (pv 0) (pa_cons (pv 1) (pa_cons (pv 2) pa_nil)))))
      (pss_one (ps_ret (pcal cN hr (pa_cons (pv 0) (pa_cons (pe_dget hu (pv 2) (pv 1) (fun _ _ => rfl)) pa_nil)))))), ?_⟩
    refine ⟨_, rfl, p, n, es, rfl, hM, ok, fun H1 d kvs sm1 nd hd hkd => ?_⟩
    obtain ⟨b, kk, g1, g2, g3, g4⟩ := hkd s hs
    refine ⟨_, rfl, _, rfl, _, rfl, .ref p, d, s, kvs, rfl, hd, by rw [g1]; rfl, ?_⟩
    have gd : DGet H1 d (kV (Sum.inl s)) (some (.ref b)) := by rw [← g1]; exact DGet.k (k := Sum.inl s) hd
    refine ⟨_, rfl, _, rfl, _, rfl, d, .ref b, rfl, gd, p, b, n, es, kk, rfl, hM.same sm1, ok, g2, g3, fun H2 t w x y sm2 ht hn h63 => ?_⟩
    refine k H2 t w x y (sm1.trans sm2) ht ?_ h63
    have e : (fun v => v ∈ kk) = Knot es s := funext fun v => propext (g3.mem g4 v)
    rw [← e]
    exact hn
theorem scArea : FnScope ["machine", "standing", "found"] ["machine", "standing"] (defScope sArea) := ⟨rfl, rfl, rfl, by decide +kernel, rfl, by decide +kernel, by decide +kernel⟩
theorem oat0 {a : V} : atI [a] 0 = some a := at_of (j := 0) rfl rfl
theorem c_area (T : Txt mg) (cN : Cal P w K mg base 6 "net" ["machine", "standing"] (spNet C)) (D : DefOf K mg "area" sArea ["machine", "standing"]) : Cal P w K mg base 7 "area" ["machine", "standing"] (spArea C) := by
  refine D.cal fun f fd F => F.ok scArea (fun vs H Q E h => ?_) (fun cdv A outer s H vs Q E hr h => ?_)
  · obtain ⟨p, n, es, s, rfl, _⟩ := h
    rfl
  · obtain ⟨p, n, es, s, rfl, hM, ok, hs, k⟩ := h
    refine ⟨_, pss_cons (ps_set (i := 2) scArea.nd rfl (.inl rfl) (pcal cN hr (pa_cons (pv 0) (pa_cons (pv 1) pa_nil))))
      (pss_cons (ps_if (pt_cmpR op_lt (pe_callB call_len_seq (by rfl) T.len PySem.boot_len (pa_cons (pv 2) pa_nil)) pe_int (nomark _)) (pss_one (ps_ret pe_int)) pss_nil)
      (pss_one (ps_ret (pe_op op_mul (pe_ix ix_tup (pix 2) pe_int (fun _ _ => rfl)) (pe_ix ix_tup (pix 2) pe_int (fun _ _ => rfl)))))), ?_⟩
    refine ⟨_, rfl, _, rfl, p, n, es, s, rfl, hM, ok, hs, fun H1 t w x y sm1 ht hn h63 => ?_⟩
    have hw0 := hn.w0
    rcases ht with ⟨a, b⟩ | ⟨a, b, q, c, d⟩ | ⟨a, b, q, r, c, d, e⟩
    · refine ⟨_, rfl, t, _, rfl, .inr (SqT.of b), _, _, rfl, rfl, _, rfl, iteT ?_⟩
      have := k H1 w x y sm1 hn
      rw [a, Int.zero_mul] at this
      exact this
    · refine ⟨_, rfl, t, _, rfl, .inr (SqT.of c), _, _, rfl, rfl, _, rfl, iteT ?_⟩
      have := k H1 w x y sm1 hn
      rw [b, Int.mul_zero] at this
      exact this
    · refine ⟨_, rfl, t, _, rfl, .inr (SqT.of c), _, _, rfl, rfl, _, rfl, iteF ?_⟩
      refine ⟨_, rfl, t, _, _, _, rfl, rfl, SqT.of c, pat0, q, _, _, _, rfl, rfl, SqT.of d, pat0, _, rfl, t, _, _, _, rfl, rfl, SqT.of c, pat1, r, _, _, _, rfl, rfl, SqT.of e, pat1, _, _, rfl, rfl, .inl ⟨by omega, by omega⟩, ?_⟩
      exact k H1 w x y sm1 hn
end
end Nv

/-! The law's pot and its draws. -/
namespace Nv
open PySem L2
abbrev sPot : Stmt := top 31
abbrev sDraw : Stmt := top 32
/-- the pot at p, its greats at ga, its smalls at sa -/
structure PotAt (H : Hp) (p ga sa : Addr) : Prop where
  ex : ∃ (gs ss : List Int) (turn sum : Int), H p = some (.lst [.ref ga, .ref sa, .int turn, .int sum]) ∧ H ga = some (.lst (vI gs)) ∧ H sa = some (.lst (vI ss)) ∧ ss ≠ [] ∧ ss.length ≤ 1000
  ne : ga ≠ sa ∧ p ≠ ga ∧ p ≠ sa
/-- all but the pot and its greats is as it was -/
def But (H H' : Hp) (p ga : Addr) : Prop := ∀ b o, H b = some o → b ≠ p → b ≠ ga → H' b = some o
theorem But.refl {H : Hp} {p ga : Addr} : But H H p ga := fun _ _ h _ _ => h
theorem But.trans {H H1 H2 : Hp} {p ga : Addr} (a : But H H1 p ga) (b : But H1 H2 p ga) : But H H2 p ga := fun c o e h1 h2 => b c o (a c o e h1 h2) h1 h2
theorem But.of {H H' : Hp} {p ga : Addr} (s : Same H H') : But H H' p ga := fun c o e _ _ => s c o e
def spPot (K : PySem.W.Frag) : Sp := fun vs H Q _ => ∃ (a : Addr) (ns : List Int), vs = [.ref a] ∧ SqL K H a (ns.map V.int) ∧ ns.length ≤ 63 ∧ ∀ (H' : Hp) (p ga sa : Addr), Same H H' → H p = none → H ga = none → PotAt H' p ga sa → Q (.ref p) H'
def spDraw : Sp := fun vs H Q _ => ∃ (p ga sa : Addr) (m : Int), vs = [.ref p, .int m] ∧ PotAt H p ga sa ∧ 0 < m ∧ m < 1000 ∧ ∀ (H' : Hp) (r : Int), But H H' p ga → PotAt H' p ga sa → 0 ≤ r → r < m → Q (.int r) H'
theorem cut_vI (l : List Int) (lo hi : Option Int) : ∃ m : List Int, cutV (vI l) lo hi = vI m ∧ m.length ≤ l.length := by
  refine ⟨(l.drop (HT.sIx (vI l).length 0 lo)).take (HT.sIx (vI l).length (vI l).length hi - HT.sIx (vI l).length 0 lo), ?_, ?_⟩
  · unfold cutV
    show _ = List.map V.int _
    simp only [List.map_take, List.map_drop]
    rfl
  · rw [List.length_take, List.length_drop]
    omega
theorem ixN_nat {n j : Nat} (h : j < n) : ixN n (j : Int) = some j := by
  unfold ixN
  rw [if_pos (by omega : (0 : Int) ≤ j)]
  exact if_pos (by omega)
section
variable {P : Program} {w : World} {K : PySem.W.Frag} {mg : Str → Option Value} {base : Heap} {C : Addr}
theorem scPot : FnScope ["_law_script", "_law_cells", "_law_greats", "_law_smalls", "_law_item"] ["_law_script"] (defScope sPot) := ⟨rfl, rfl, rfl, by decide +kernel, rfl, by decide +kernel, by decide +kernel⟩
theorem c_pot (T : Txt mg) (D : DefOf K mg "_law_pot" sPot ["_law_script"]) : Cal P w K mg base 1 "_law_pot" ["_law_script"] (spPot K) := by
  refine D.cal fun f fd F => F.ok scPot (fun vs H Q E h => ?_) (fun cdv A outer s H vs Q E hr h => ?_)
  · obtain ⟨a, ns, rfl, _⟩ := h
    rfl
  · obtain ⟨a, ns, rfl, hS, hl, k⟩ := h
    refine ⟨_, pss_cons (ps_setLc (i := 1) (own := [("_law_item", 4)]) (g := gName 4) (tt := tYes) rfl scPot.nd rfl rfl (sw_true rfl rfl rfl (by decide +kernel)) (pi_list (pe_slice sl_list (pv 0) po_none (po_some pe_int)))
        (blkOk_by (own := [("_law_item", 4)]) (N := ["_law_script", "_law_cells", "_law_greats", "_law_smalls", "_law_item"]) (sc := defScope sPot) (by decide +kernel)) (fun _ _ _ _ _ => pg_name (i := 4) scPot.nd rfl (.inl rfl)) (fun _ _ _ _ _ => pts_nil)
        (fun _ _ _ _ _ => pe_callTy call_int1 (by rfl) T.int (by decide +kernel) (pa_cons (pv 4) pa_nil)))
      (pss_cons (ps_setLc (i := 2) (own := [("_law_item", 4)]) (g := gName 4) rfl scPot.nd rfl rfl (sw_true rfl rfl rfl (by decide +kernel)) (pi_list (pv 1))
        (blkOk_by (own := [("_law_item", 4)]) (N := ["_law_script", "_law_cells", "_law_greats", "_law_smalls", "_law_item"]) (sc := defScope sPot) (by decide +kernel)) (fun _ _ _ _ _ => pg_name (i := 4) scPot.nd rfl (.inl rfl))
        (fun _ _ _ _ _ => pts_one (pt_cmpR op_ge (pe_callB call_abs (by rfl) T.abs (by decide +kernel) (pa_cons (pv 4) pa_nil)) (pe_op op_pow pe_int pe_int) (nomark _)))
        (fun _ _ _ _ _ => pe_callB call_abs (by rfl) T.abs (by decide +kernel) (pa_cons (pv 4) pa_nil)))
      (pss_cons (ps_set (i := 3) scPot.nd rfl (.inl rfl) (pe_op op_cat (pe_lc (own := [("_law_item", 4)]) (g := gName 4) rfl scPot.nd (pi_list (pv 1))
        (blkOk_by (own := [("_law_item", 4)]) (N := ["_law_script", "_law_cells", "_law_greats", "_law_smalls", "_law_item"]) (sc := defScope sPot) (by decide +kernel)) (fun _ _ _ _ _ => pg_name (i := 4) scPot.nd rfl (.inl rfl))
        (fun _ _ _ _ _ => pts_one (pt_cmpR op_lt (pe_callB call_abs (by rfl) T.abs (by decide +kernel) (pa_cons (pv 4) pa_nil)) (pe_op op_pow pe_int pe_int) (nomark _)))
        (fun _ _ _ _ _ => pe_op op_mod (pe_callTy call_int1 (by rfl) T.int (by decide +kernel) (pa_cons (pv 4) pa_nil)) pe_int))
        (pe_lst (pa_cons (pe_op op_add (pe_callB call_len_seq (by rfl) T.len PySem.boot_len (pa_cons (pv 1) pa_nil)) pe_int) pa_nil))))
      (pss_one (ps_ret (pe_lst (pa_cons (pv 2) (pa_cons (pv 3) (pa_cons pe_int (pa_cons (pe_op op_mod (pe_callTy call_int1 (by rfl) T.int (by decide +kernel) (pa_cons (pe_callB (cr_sum rfl) (by rfl) T.sum (by decide +kernel) (pa_cons (pv 3) pa_nil)) pa_nil)) pe_int) pa_nil))))))))), ?_⟩
    -- cells
    refine ⟨_, rfl, _, rfl, a, ns.map V.int, rfl, hS, fun c nc => ?_⟩
    obtain ⟨ms, hms, lms⟩ := cut_vI ns none (some 63)
    have sm0 := same_new (o := .lst (cutV (ns.map V.int) none (some 63))) (Same.refl H) nc
    have hc0 : (upd H c (.lst (cutV (ns.map V.int) none (some 63)))) c = some (.lst (vI ms)) := by rw [upd_same, ← hms]; rfl
    generalize upd H c (.lst (cutV (ns.map V.int) none (some 63))) = H0 at sm0 hc0
    refine ⟨c, rfl, ⟨_, SqL.of hc0⟩, fun d nd => lc_list (K := K) (a := c) (xs := vI ms) (fun i H1 => Same H0 H1 ∧ H1 d = some (.lst (vI (ms.take i)))) ⟨same_new (Same.refl _) nd, upd_same⟩ (fun i H1 _ g => SqL.of (g.1 _ _ hc0)) ?_ ?_⟩
    · rintro i x H1 hi ⟨sm1, hd1⟩
      obtain ⟨u, hu, rfl⟩ := at_vI hi
      refine ⟨rfl, _, rfl, .inl ⟨u, rfl, _, hd1, small1000 (by rw [vI_len, List.length_take]; omega), same_upd sm1 nd, ?_⟩⟩
      rw [upd_same, take_snoc hu, vI_app]
      rfl
    rintro H1 ⟨sm1, hd1⟩
    rw [vI_len, List.take_length] at hd1
    have smA : Same H H1 := sm0.trans sm1
    -- greats
    refine ⟨_, rfl, d, rfl, ⟨_, SqL.of hd1⟩, fun ga nga => lc_list (K := K) (a := d) (xs := vI ms) (fun i H2 => ∃ gs : List Int, Same H1 H2 ∧ H2 ga = some (.lst (vI gs)) ∧ gs.length ≤ i) ⟨[], same_new (Same.refl _) nga, upd_same, Nat.le_refl _⟩ (fun i H2 _ ⟨_, g, _⟩ => SqL.of (g _ _ hd1)) ?_ ?_⟩
    · rintro i x H2 hi ⟨gs, sm2, hg2, lg2⟩
      obtain ⟨u, hu, rfl⟩ := at_vI hi
      have hil := (List.getElem?_eq_some_iff.mp hu).1
      refine ⟨rfl, _, rfl, u, rfl, _, _, rfl, rfl, ⟨by decide, by decide, by decide⟩, _, _, rfl, rfl, _, rfl, ite2 (fun _ => ?_) (fun _ => ?_)⟩
      · refine ⟨_, rfl, u, rfl, _, hg2, small1000 (by rw [vI_len]; omega), gs ++ [if u < 0 then -u else u], same_upd sm2 nga, ?_, by rw [List.length_append]; exact Nat.succ_le_succ lg2⟩
        rw [upd_same, vI_app]
        rfl
      · exact ⟨gs, sm2, hg2, by omega⟩
    rintro H2 ⟨gs, sm2, hg2, lg2⟩
    have hd2 := sm2 _ _ hd1
    -- smalls
    refine ⟨_, rfl, d, rfl, ⟨_, SqL.of hd2⟩, fun s0 ns0 => lc_list (K := K) (a := d) (xs := vI ms) (fun i H3 => ∃ ss : List Int, Same H2 H3 ∧ H3 s0 = some (.lst (vI ss)) ∧ ss.length ≤ i) ⟨[], same_new (Same.refl _) ns0, upd_same, Nat.le_refl _⟩ (fun i H3 _ ⟨_, g, _⟩ => SqL.of (g _ _ hd2)) ?_ ?_⟩
    · rintro i x H3 hi ⟨ss, sm3, hs3, ls3⟩
      obtain ⟨u, hu, rfl⟩ := at_vI hi
      have hil := (List.getElem?_eq_some_iff.mp hu).1
      refine ⟨rfl, _, rfl, u, rfl, _, _, rfl, rfl, ⟨by decide, by decide, by decide⟩, _, _, rfl, rfl, _, rfl, ite2 (fun _ => ?_) (fun _ => ?_)⟩
      · refine ⟨_, rfl, .inl ⟨u, rfl, _, _, rfl, rfl, (by show (0 : Int) < 1000000007; decide), _, hs3, small1000 (by rw [vI_len]; omega), ss ++ [u % 1000000007], same_upd sm3 ns0, ?_, by rw [List.length_append]; exact Nat.succ_le_succ ls3⟩⟩
        rw [upd_same, vI_app]
        rfl
      · exact ⟨ss, sm3, hs3, by omega⟩
    rintro H3 ⟨ss, sm3, hs3, ls3⟩
    rw [vI_len] at ls3 lg2
    have hd3 := sm3 _ _ hd2
    have hg3 := sm3 _ _ hg2
    refine ⟨_, rfl, d, _, rfl, .inl (SqL.of hd3), _, _, rfl, rfl, (by show 1 ≤ sizeLine; decide), fun l1 nl1 => ?_⟩
    have sm4 := same_new (o := .lst [.int (((vI ms).length : Nat) + 1)]) (Same.refl H3) nl1
    refine ⟨s0, l1, _, _, rfl, rfl, sm4 _ _ hs3, upd_same, ?_, fun sa nsa => ?_⟩
    · rw [vI_len]
      exact Nat.le_of_lt (small1000 (by show ss.length + 1 ≤ 1000; omega))
    have sm5 := same_new (o := .lst (vI ss ++ [.int (((vI ms).length : Nat) + 1)])) sm4 nsa
    have hsa : (upd (upd H3 l1 (.lst [.int (((vI ms).length : Nat) + 1)])) sa (.lst (vI ss ++ [.int (((vI ms).length : Nat) + 1)]))) sa = some (.lst (vI (ss ++ [(((vI ms).length : Nat) : Int) + 1]))) := by rw [upd_same, vI_app]; rfl
    generalize upd (upd H3 l1 (.lst [.int (((vI ms).length : Nat) + 1)])) sa (.lst (vI ss ++ [.int (((vI ms).length : Nat) + 1)])) = H5 at sm5 hsa
    have hg5 := sm5 _ _ hg3
    refine ⟨_, rfl, _, rfl, _, rfl, sa, _, rfl, SqL.of hsa, .inl ⟨_, rfl, _, _, rfl, rfl, (by show (0 : Int) < 999983; decide), (by show 4 ≤ sizeLine; decide), fun p np => ?_⟩⟩
    have smZ : Same H H5 := ((smA.trans sm2).trans sm3).trans sm5
    have gsa : ga ≠ sa := ne_of_none (sm4 _ _ hg3) nsa
    refine k _ p ga sa (same_new smZ np) (smZ.free np) (smA.free nga) ⟨⟨gs, _, 0, _, upd_same, by rw [upd_ne (ne_of_none hg5 np)]; exact hg5, by rw [upd_ne (ne_of_none hsa np)]; exact hsa, by simp, ?_⟩, gsa, (ne_of_none hg5 np).symm, (ne_of_none hsa np).symm⟩
    rw [List.length_append]
    show ss.length + 1 ≤ _
    omega
theorem scDraw : FnScope ["_law_pot_here", "_law_many", "_law_turn", "_law_number", "_law_seed"] ["_law_pot_here", "_law_many"] (defScope sDraw) := ⟨rfl, rfl, rfl, by decide +kernel, rfl, by decide +kernel, by decide +kernel⟩
theorem c_draw (T : Txt mg) (D : DefOf K mg "_law_draw" sDraw ["_law_pot_here", "_law_many"]) : Cal P w K mg base 1 "_law_draw" ["_law_pot_here", "_law_many"] spDraw := by
  refine D.cal fun f fd F => F.ok scDraw (fun vs H Q E h => ?_) (fun cdv A outer s H vs Q E hr h => ?_)
  · obtain ⟨p, ga, sa, m, rfl, _⟩ := h
    rfl
  · obtain ⟨p, ga, sa, m, rfl, ⟨⟨gs, ss, turn, sum, hp, hg, hs, hne, hss⟩, gsa, pga, psa⟩, m0, m1, k⟩ := h
    refine ⟨_, pss_cons (ps_set (i := 2) scDraw.nd rfl (.inl rfl) (pe_ix ix_list (pv 0) pe_int (fun _ _ => rfl)))
      (pss_cons (ps_asg (pe_op op_add (pv 2) pe_int) (pg_sub (pv 0) pe_int set_list))
      (pss_cons (ps_if (pt_cmpR op_gt (pe_callB call_len_seq (by rfl) T.len PySem.boot_len (pa_cons (pe_ix ix_list (pv 0) pe_int (fun _ _ => rfl)) pa_nil)) pe_int (nomark _))
        (pss_cons (ps_set (i := 3) scDraw.nd rfl (.inl rfl) (pe_ix ix_list (pe_ix ix_list (pv 0) pe_int (fun _ _ => rfl)) pe_int (fun _ _ => rfl)))
        (pss_cons (ps_asg (pe_op op_fdiv (pv 3) (pv 1)) (pg_sub (pe_ix ix_list (pv 0) pe_int (fun _ _ => rfl)) pe_int set_list))
        (pss_cons (ps_if (pt_cmpR op_lt (pv 3) (pv 1) (nomark _)) (pss_one (ps_expr (pe_bm PySem.F.plainAttrs_list PySem.F.slot_list_pop PySem.F.type_list_pop mt_popAt (pe_ix ix_list (pv 0) pe_int (fun _ _ => rfl)) (pa_cons pe_int pa_nil)))) pss_nil)
        (pss_one (ps_ret (pe_op op_mod (pe_callTy call_int1 (by rfl) T.int (by decide +kernel) (pa_cons (pv 3) pa_nil)) (pv 1))))))) pss_nil)
      (pss_cons (ps_set (i := 4) scDraw.nd rfl (.inl rfl) (pe_op op_add (pe_op op_add (pe_op op_mul (pe_ix ix_list (pe_ix ix_list (pv 0) pe_int (fun _ _ => rfl)) (pe_op op_mod (pe_callTy call_int1 (by rfl) T.int (by decide +kernel) (pa_cons (pv 2) pa_nil)) (pe_callB call_len_seq (by rfl) T.len PySem.boot_len (pa_cons (pe_ix ix_list (pv 0) pe_int (fun _ _ => rfl)) pa_nil))) (fun _ _ => rfl)) pe_int)
          (pe_op op_mul pe_int (pv 2))) (pe_op op_mul (pe_ix ix_list (pv 0) pe_int (fun _ _ => rfl)) pe_int)))
      (pss_cons (ps_set (i := 3) scDraw.nd rfl (.inl rfl) (pe_op op_mod (pe_callTy call_int1 (by rfl) T.int (by decide +kernel) (pa_cons (pe_op op_add (pe_op op_mul (pv 4) pe_int) pe_int) pa_nil)) pe_int))
      (pss_cons (ps_set (i := 3) scDraw.nd rfl (.inl rfl) (pe_op op_mod (pe_callTy call_int1 (by rfl) T.int (by decide +kernel) (pa_cons (pe_op op_mul (pv 3) (pe_op op_add (pe_op op_fdiv (pv 3) pe_int) pe_int)) pa_nil)) pe_int))
      (pss_cons (ps_set (i := 3) scDraw.nd rfl (.inl rfl) (pe_op op_mod (pe_callTy call_int1 (by rfl) T.int (by decide +kernel) (pa_cons (pe_op op_add (pe_op op_mul (pv 3) (pe_op op_add (pe_op op_fdiv (pv 3) pe_int) pe_int)) (pv 2)) pa_nil)) pe_int))
      (pss_one (ps_ret (pe_op op_mod (pe_callTy call_int1 (by rfl) T.int (by decide +kernel) (pa_cons (pe_op op_fdiv (pv 3) pe_int) pa_nil)) (pv 1)))))))))), ?_⟩
    refine ⟨_, rfl, p, _, _, _, rfl, rfl, SqL.of hp, at_of (j := 2) rfl rfl, ?_⟩
    refine ⟨_, rfl, _, _, rfl, rfl, _, rfl, p, _, _, 2, rfl, rfl, hp, ixN_nat (j := 2) (by show 2 < 4; decide), ?_⟩
    have hp1 : (upd H p (.lst ([V.ref ga, .ref sa, .int turn, .int sum].set 2 (.int (turn + 1))))) p = some (.lst [.ref ga, .ref sa, .int (turn + 1), .int sum]) := upd_same
    have but1 : But H (upd H p (.lst ([V.ref ga, .ref sa, .int turn, .int sum].set 2 (.int (turn + 1))))) p ga := fun b o e h1 _ => by rw [upd_ne h1]; exact e
    have hg1 : (upd H p (.lst ([V.ref ga, .ref sa, .int turn, .int sum].set 2 (.int (turn + 1))))) ga = some (.lst (vI gs)) := by rw [upd_ne pga.symm]; exact hg
    have hs1 : (upd H p (.lst ([V.ref ga, .ref sa, .int turn, .int sum].set 2 (.int (turn + 1))))) sa = some (.lst (vI ss)) := by rw [upd_ne psa.symm]; exact hs
    generalize upd H p (.lst ([V.ref ga, .ref sa, .int turn, .int sum].set 2 (.int (turn + 1)))) = H1 at hp1 but1 hg1 hs1
    have ixp0 : atI [V.ref ga, .ref sa, .int (turn + 1), .int sum] 0 = some (.ref ga) := at_of (j := 0) rfl rfl
    have ixp1 : atI [V.ref ga, .ref sa, .int (turn + 1), .int sum] 1 = some (.ref sa) := at_of (j := 1) rfl rfl
    have ixp3 : atI [V.ref ga, .ref sa, .int (turn + 1), .int sum] 3 = some (.int sum) := at_of (j := 3) rfl rfl
    refine ⟨_, rfl, p, _, _, _, rfl, rfl, SqL.of hp1, ixp0, ga, _, rfl, .inl (SqL.of hg1), _, _, rfl, rfl, _, rfl, ite2 (fun hgt => ?_) (fun _ => ?_)⟩
    · -- a great one is left
      cases gs with
      | nil => exact absurd (of_decide_eq_true hgt) (by decide)
      | cons g gr =>
        have ix0 : atI (vI (g :: gr)) 0 = some (.int g) := at_of (j := 0) rfl rfl
        refine ⟨_, rfl, p, _, _, _, rfl, rfl, SqL.of hp1, ixp0, ga, _, _, _, rfl, rfl, SqL.of hg1, ix0, ?_⟩
        refine ⟨_, rfl, _, rfl, _, _, rfl, rfl, ⟨m0, by omega⟩, _, rfl, p, _, _, _, rfl, rfl, SqL.of hp1, ixp0, ga, _, _, 0, rfl, rfl, hg1, ixN_nat (j := 0) (by rw [vI_len]; exact Nat.succ_pos _), ?_⟩
        have hg2 : (upd H1 ga (.lst ((vI (g :: gr)).set 0 (.int (g / m))))) ga = some (.lst (vI (g / m :: gr))) := upd_same
        have but2 : But H (upd H1 ga (.lst ((vI (g :: gr)).set 0 (.int (g / m))))) p ga := fun b o e h1 h2 => by rw [upd_ne h2]; exact but1 b o e h1 h2
        have hp2 : (upd H1 ga (.lst ((vI (g :: gr)).set 0 (.int (g / m))))) p = some (.lst [.ref ga, .ref sa, .int (turn + 1), .int sum]) := by rw [upd_ne pga]; exact hp1
        have hs2 : (upd H1 ga (.lst ((vI (g :: gr)).set 0 (.int (g / m))))) sa = some (.lst (vI ss)) := by rw [upd_ne gsa.symm]; exact hs1
        generalize upd H1 ga (.lst ((vI (g :: gr)).set 0 (.int (g / m)))) = H2 at hg2 but2 hp2 hs2
        refine ⟨_, rfl, _, rfl, _, _, rfl, rfl, _, rfl, ite2 (fun _ => ?_) (fun _ => ?_)⟩
        · refine ⟨_, rfl, p, _, _, _, rfl, rfl, SqL.of hp2, ixp0, .inl ⟨rfl, _, SqL.of hg2⟩, ga, _, 0, 0, _, rfl, rfl, hg2, by decide, by decide, ?_, rfl, ?_⟩
          · have := (ixN_seq (ixN_nat (n := (vI (g / m :: gr)).length) (j := 0) (by rw [vI_len]; exact Nat.succ_pos _))).1
            exact this
          · have hg3 : (upd H2 ga (.lst ((vI (g / m :: gr)).eraseIdx 0))) ga = some (.lst (vI gr)) := upd_same
            refine ⟨_, rfl, .inl ⟨g, rfl, _, rfl, _, _, rfl, rfl, m0, ?_⟩⟩
            exact k _ _ (fun b o e h1 h2 => by rw [upd_ne h2]; exact but2 b o e h1 h2) ⟨⟨gr, ss, turn + 1, sum, by rw [upd_ne pga]; exact hp2, hg3, by rw [upd_ne gsa.symm]; exact hs2, hne, hss⟩, gsa, pga, psa⟩ (Int.emod_nonneg _ (by omega)) (Int.emod_lt_of_pos _ m0)
        · refine ⟨_, rfl, .inl ⟨g, rfl, _, rfl, _, _, rfl, rfl, m0, ?_⟩⟩
          exact k _ _ but2 ⟨⟨_, ss, turn + 1, sum, hp2, hg2, hs2, hne, hss⟩, gsa, pga, psa⟩ (Int.emod_nonneg _ (by omega)) (Int.emod_lt_of_pos _ m0)
    · have lss : 0 < ss.length := List.length_pos_iff.mpr hne
      have lz : (0 : Int) < ((vI ss).length : Nat) := by rw [vI_len]; omega
      have h1 := Int.emod_nonneg turn (b := ((vI ss).length : Nat)) (by omega)
      have h2 := Int.emod_lt_of_pos turn lz
      obtain ⟨u, hu⟩ := get_some (l := ss) (i := (turn % ((vI ss).length : Nat)).toNat) (by rw [vI_len] at h1 h2 ⊢; omega)
      have hat : atI (vI ss) (turn % ((vI ss).length : Nat)) = some (.int u) := at_of (j := (turn % ((vI ss).length : Nat)).toNat) (by omega) (by unfold vI; rw [List.getElem?_map]; unfold vI at hu; rw [hu]; rfl)
      refine ⟨_, rfl, p, _, _, _, rfl, rfl, SqL.of hp1, ixp1, _, rfl, .inl ⟨turn, rfl, _, rfl, p, _, _, _, rfl, rfl, SqL.of hp1, ixp1, sa, _, rfl, .inl (SqL.of hs1), _, _, rfl, rfl, lz, sa, _, _, _, rfl, rfl, SqL.of hs1, hat, ?_⟩⟩
      refine ⟨_, _, rfl, rfl, .inr ⟨by decide, by decide⟩, _, rfl, _, _, rfl, rfl, .inl ⟨by decide, by decide⟩, _, _, rfl, rfl, _, rfl, p, _, _, _, rfl, rfl, SqL.of hp1, ixp3, _, _, rfl, rfl, .inr ⟨by decide, by decide⟩, _, _, rfl, rfl, ?_⟩
      generalize u * 7919 + 104729 * turn + sum * 31 = seed
      refine ⟨_, rfl, _, _, rfl, rfl, .inr ⟨by decide, by decide⟩, _, _, rfl, rfl, .inl ⟨_, rfl, _, _, rfl, rfl, (by show (0 : Int) < 2147483647; decide), ?_⟩⟩
      have q1 := Int.emod_nonneg (seed * 48271 + 11) (b := 2147483647) (by decide)
      have q2 := Int.emod_lt_of_pos (seed * 48271 + 11) (b := 2147483647) (by decide)
      generalize (seed * 48271 + 11) % 2147483647 = n1 at q1 q2
      refine ⟨_, rfl, _, rfl, _, _, rfl, rfl, ⟨by decide, by decide⟩, _, _, rfl, rfl, _, _, rfl, rfl, .inl ⟨by omega, by omega⟩, .inl ⟨_, rfl, _, _, rfl, rfl, (by show (0 : Int) < 2147483629; decide), ?_⟩⟩
      have q3 := Int.emod_nonneg (n1 * (n1 / 1009 + 69621)) (b := 2147483629) (by decide)
      have q4 := Int.emod_lt_of_pos (n1 * (n1 / 1009 + 69621)) (b := 2147483629) (by decide)
      generalize (n1 * (n1 / 1009 + 69621)) % 2147483629 = n2 at q3 q4
      refine ⟨_, rfl, _, rfl, _, _, rfl, rfl, ⟨by decide, by decide⟩, _, _, rfl, rfl, _, _, rfl, rfl, .inl ⟨by omega, by omega⟩, _, rfl, _, _, rfl, rfl, .inl ⟨_, rfl, _, _, rfl, rfl, (by show (0 : Int) < 2147483399; decide), ?_⟩⟩
      refine ⟨_, rfl, _, _, rfl, rfl, ⟨by decide, by decide⟩, .inl ⟨_, rfl, _, rfl, _, _, rfl, rfl, m0, ?_⟩⟩
      exact k _ _ but1 ⟨⟨gs, ss, turn + 1, sum, hp1, hg1, hs1, hne, hss⟩, gsa, pga, psa⟩ (Int.emod_nonneg _ (by omega)) (Int.emod_lt_of_pos _ m0)
end
end Nv

/-! _law_parts. -/
namespace Nv
open PySem L2
abbrev sParts : Stmt := top 33
/-- between two draws: the events made so far -/
structure Mid (H1 H : Hp) (p ga sa ev : Addr) (as : List Addr) (es : List Ev) (n : Int) : Prop where
  but : But H1 H p ga
  pot : PotAt H p ga sa
  lst : H ev = some (.lst (as.map V.ref))
  len : as.length = es.length
  at_ : ∀ (i : Nat) (e : Ev), es[i]? = some e → ∃ x, as[i]? = some x ∧ H x = some (.tup (evV e))
  ok : ∀ e ∈ es, OkEv n e
  np : ev ≠ p
  ng : ev ≠ ga
  ns : ev ≠ sa
  fr : H1 ev = none
theorem PotAt.lp {H : Hp} {p ga sa : Addr} (h : PotAt H p ga sa) : ∃ xs, H p = some (.lst xs) := let ⟨_, _, _, _, e, _⟩ := h.ex; ⟨_, e⟩
theorem PotAt.lg {H : Hp} {p ga sa : Addr} (h : PotAt H p ga sa) : ∃ xs, H ga = some (.lst xs) := let ⟨_, _, _, _, _, e, _⟩ := h.ex; ⟨_, e⟩
theorem PotAt.ls {H : Hp} {p ga sa : Addr} (h : PotAt H p ga sa) : ∃ xs, H sa = some (.lst xs) := let ⟨_, _, _, _, _, _, e, _⟩ := h.ex; ⟨_, e⟩
theorem PotAt.tupNe {H : Hp} {p ga sa x : Addr} {xs : List V} (h : PotAt H p ga sa) (hx : H x = some (.tup xs)) : x ≠ p ∧ x ≠ ga := by
  obtain ⟨_, e1⟩ := h.lp
  obtain ⟨_, e2⟩ := h.lg
  exact ⟨ne_of hx e1 (by intro z; cases z), ne_of hx e2 (by intro z; cases z)⟩
theorem PotAt.same {H H' : Hp} {p ga sa : Addr} (h : PotAt H p ga sa) (k1 : ∀ o, H p = some o → H' p = some o) (k2 : ∀ o, H ga = some o → H' ga = some o) (k3 : ∀ o, H sa = some o → H' sa = some o) : PotAt H' p ga sa :=
  let ⟨⟨gs, ss, turn, sum, a, b, c, d⟩, e⟩ := h
  ⟨⟨gs, ss, turn, sum, k1 _ a, k2 _ b, k3 _ c, d⟩, e⟩
theorem Mid.draw {H1 H H' : Hp} {p ga sa ev : Addr} {as : List Addr} {es : List Ev} {n : Int} (h : Mid H1 H p ga sa ev as es n) (b : But H H' p ga) (q : PotAt H' p ga sa) : Mid H1 H' p ga sa ev as es n :=
  ⟨h.but.trans b, q, b _ _ h.lst h.np h.ng, h.len, fun i e he => let ⟨x, hx, ho⟩ := h.at_ i e he; ⟨x, hx, b _ _ ho (h.pot.tupNe ho).1 (h.pot.tupNe ho).2⟩, h.ok, h.np, h.ng, h.ns, h.fr⟩
theorem Mid.new {H1 H : Hp} {p ga sa ev t : Addr} {o : HO} {as : List Addr} {es : List Ev} {n : Int} (h : Mid H1 H p ga sa ev as es n) (nt : H t = none) : Mid H1 (upd H t o) p ga sa ev as es n := by
  have k : ∀ b u, H b = some u → (upd H t o) b = some u := fun b u e => by rw [upd_ne (ne_of_none e nt)]; exact e
  exact h.draw (But.of k) (h.pot.same (k _) (k _) (k _))
theorem Mid.snoc {H1 H : Hp} {p ga sa ev t : Addr} {as : List Addr} {es : List Ev} {n : Int} {e : Ev} (h : Mid H1 H p ga sa ev as es n) (ht : H t = some (.tup (evV e))) (ok : OkEv n e) :
    Mid H1 (upd H ev (.lst (as.map V.ref ++ [V.ref t]))) p ga sa ev (as ++ [t]) (es ++ [e]) n := by
  have te : ∀ b xs, H b = some (.tup xs) → (upd H ev (.lst (as.map V.ref ++ [V.ref t]))) b = some (.tup xs) := fun b xs z => by rw [upd_ne (ne_of z h.lst (by intro q; cases q))]; exact z
  refine ⟨fun b o z h1 h2 => ?_, h.pot.same (fun o z => by rw [upd_ne h.np.symm]; exact z) (fun o z => by rw [upd_ne h.ng.symm]; exact z) (fun o z => by rw [upd_ne h.ns.symm]; exact z), by rw [List.map_append]; exact upd_same, by rw [List.length_append, List.length_append, h.len]; rfl, fun i e' he => ?_, fun e' he => ?_, h.np, h.ng, h.ns, h.fr⟩
  · rw [upd_ne (ne_of_none z h.fr)]
    exact h.but b o z h1 h2
  · rcases Nat.lt_or_ge i es.length with hi | hi
    · rw [List.getElem?_append_left hi] at he
      obtain ⟨x, hx, ho⟩ := h.at_ i e' he
      exact ⟨x, by rw [List.getElem?_append_left (by rw [h.len]; exact hi)]; exact hx, te _ _ ho⟩
    · rw [List.getElem?_append_right hi] at he
      have hz : i - es.length = 0 := by
        cases z : i - es.length with
        | zero => rfl
        | succ m => rw [z] at he; simp at he
      rw [hz] at he
      cases he
      exact ⟨t, by rw [List.getElem?_append_right (by rw [h.len]; exact hi), h.len, hz]; rfl, te _ _ ht⟩
  · rcases List.mem_append.1 he with he | he
    · exact h.ok e' he
    · rw [List.mem_singleton.mp he]; exact ok
def spParts : Sp := fun vs H Q _ => ∃ (p ga sa : Addr), vs = [.ref p, .int 4, .int 6] ∧ PotAt H p ga sa ∧ ∀ (H' : Hp) (q : Addr) (n : Int) (es : List Ev), But H H' p ga → PotAt H' p ga sa → PartsAt H' q n es → OkParts n es → Q (.ref q) H'
section
variable {P : Program} {w : World} {K : PySem.W.Frag} {mg : Str → Option Value} {base : Heap} {C : Addr}
theorem scParts : FnScope ["_law_pot_here", "_law_most_standings", "_law_most_events", "_law_standings", "_law_kind", "_law_events", "_law_at", "_law_before", "_law_after", "_law_tries", "_law_points"] ["_law_pot_here", "_law_most_standings", "_law_most_events"] (defScope sParts) := ⟨rfl, rfl, rfl, by decide +kernel, rfl, by decide +kernel, by decide +kernel⟩
theorem c_parts (T : Txt mg) (cD : Cal P w K mg base 1 "_law_draw" ["_law_pot_here", "_law_many"] spDraw) (D : DefOf K mg "_law_parts" sParts ["_law_pot_here", "_law_most_standings", "_law_most_events"]) :
    Cal P w K mg base 2 "_law_parts" ["_law_pot_here", "_law_most_standings", "_law_most_events"] spParts := by
  refine D.cal fun f fd F => F.ok scParts (fun vs H Q E h => ?_) (fun cdv A outer s H vs Q E hr h => ?_)
  · obtain ⟨p, ga, sa, rfl, _⟩ := h
    rfl
  · obtain ⟨p, ga, sa, rfl, hpot, k⟩ := h
    refine ⟨_, pss_cons (ps_set (i := 3) scParts.nd rfl (.inl rfl) (pe_op op_add pe_int (pcal cD hr (pa_cons (pv 0) (pa_cons (pv 1) pa_nil)))))
      (pss_cons (ps_set (i := 4) scParts.nd rfl (.inl rfl) (pcal cD hr (pa_cons (pv 0) (pa_cons pe_int pa_nil))))
      (pss_cons (ps_set (i := 5) scParts.nd rfl (.inl rfl) (pe_lst pa_nil))
      (pss_cons (ps_for PassesOwn.never rfl (pi_range1 rfl T.range (pa_cons (pe_op op_add pe_int (pcal cD hr (pa_cons (pv 0) (pa_cons (pv 2) pa_nil)))) pa_nil)) (pg_name (i := 6) scParts.nd rfl (.inl rfl))
        (pss_cons (ps_par (i := 7) (j := 8) (by rfl) scParts.nd rfl rfl (by decide) rfl rfl (pa_cons (pcal cD hr (pa_cons (pv 0) (pa_cons (pv 3) pa_nil))) (pa_cons (pcal cD hr (pa_cons (pv 0) (pa_cons (pv 3) pa_nil))) pa_nil)) (by rfl))
        (pss_cons (ps_if (pt_cmpR op_gt (pv 4) pe_int (nomark _))
          (pss_cons (ps_set (i := 7) scParts.nd rfl (.inl rfl) (pe_op op_mod (pe_callTy call_int1 (by rfl) T.int (by decide +kernel) (pa_cons (pv 6) pa_nil)) (pv 3)))
          (pss_one (ps_set (i := 8) scParts.nd rfl (.inl rfl) (pe_ix ix_tup (pe_tup (pa_cons (pv 7) (pa_cons (pe_op op_mod (pe_callTy call_int1 (by rfl) T.int (by decide +kernel) (pa_cons (pe_op op_add (pv 7) pe_int) pa_nil)) (pv 3)) pa_nil)))
            (pe_callTy call_int1 (by rfl) T.int (by decide +kernel) (pa_cons (pe_cmpR op_gt (pcal cD hr (pa_cons (pv 0) (pa_cons pe_int pa_nil))) pe_int (nomark _)) pa_nil)) (fun _ _ => rfl))))) pss_nil)
        (pss_cons (ps_set (i := 9) scParts.nd rfl (.inl rfl) (pe_ifExp (pt_cmpR op_eq (pv 4) pe_int (nomark _)) pe_int (pe_op op_add pe_int (pcal cD hr (pa_cons (pv 0) (pa_cons pe_int pa_nil))))))
        (pss_cons (ps_set (i := 10) scParts.nd rfl (.inl rfl) (pe_ifExp (pt_cmpR op_eq (pv 4) pe_int (nomark _)) (pcal cD hr (pa_cons (pv 0) (pa_cons pe_int pa_nil))) (pe_op op_sub (pcal cD hr (pa_cons (pv 0) (pa_cons pe_int pa_nil))) pe_int)))
        (pss_one (ps_expr (pe_bm PySem.F.plainAttrs_list PySem.F.slot_list_append PySem.F.type_list_append mt_append (pv 5) (pa_cons (pe_tup (pa_cons (pv 7) (pa_cons (pv 8) (pa_cons (pv 9) (pa_cons (pv 10) pa_nil))))) pa_nil)))))))))
      (pss_one (ps_ret (pe_tup (pa_cons (pv 3) (pa_cons (pe_callTy call_tuple_of (by rfl) T.tuple (by decide +kernel) (pa_cons (pv 5) pa_nil)) pa_nil)))))))), ?_⟩
    -- standings, kind, events
    refine ⟨_, rfl, _, rfl, p, ga, sa, 4, rfl, hpot, by omega, by omega, fun H1 r1 but1 pot1 r10 r14 => ⟨_, _, rfl, rfl, ?_⟩⟩
    obtain ⟨n, hn⟩ : ∃ n, (1 : Int) + r1 = n := ⟨_, rfl⟩
    refine ⟨_, rfl, p, ga, sa, 4, rfl, pot1, by omega, by omega, fun H2 kind but2 pot2 kd0 kd4 => ?_⟩
    refine ⟨Nat.zero_le _, fun ev nev => ?_⟩
    obtain ⟨_, lp⟩ := pot2.lp
    obtain ⟨_, lg⟩ := pot2.lg
    obtain ⟨_, ls⟩ := pot2.ls
    have k2 : ∀ b u, H2 b = some u → (upd H2 ev (.lst [])) b = some u := fun b u e => by rw [upd_ne (ne_of_none e nev)]; exact e
    have mid0 : Mid H2 (upd H2 ev (.lst [])) p ga sa ev [] [] n := ⟨But.of k2, pot2.same (k2 _) (k2 _) (k2 _), upd_same, rfl, fun i e he => by simp at he, by simp, (ne_of_none lp nev).symm, (ne_of_none lg nev).symm, (ne_of_none ls nev).symm, nev⟩
    refine ⟨_, rfl, _, rfl, p, ga, sa, 6, rfl, mid0.pot, by omega, by omega, fun H3 r6 but3 pot3 r60 r66 => ⟨_, _, rfl, rfl, _, rfl, by omega, by omega, ?_⟩⟩
    have n1 : 1 ≤ n := by omega
    have n4 : n ≤ 4 := by omega
    refine for_range (lo := 0) (n := (1 + r6).toNat) (fun i σ H' => ∃ (as : List Addr) (es : List Ev) (v6 v7 v8 v9 v10 : Option V), σ = [some (.ref p), some (.int 4), some (.int 6), some (.int n), some (.int kind), some (.ref ev), v6, v7, v8, v9, v10] ∧ Mid H2 H' p ga sa ev as es n ∧ es.length = i)
      ⟨[], [], none, none, none, none, none, (by rw [← hn]; rfl), mid0.draw but3 pot3, rfl⟩ ?_ ?_
    · rintro i σ H4 hi ⟨as, es, v6, v7, v8, v9, v10, rfl, mid, len⟩
      have las : (as.map V.ref).length < sizeLine := small1000 (by rw [List.length_map, mid.len]; omega)
      -- before, after
      refine ⟨_, rfl, _, rfl, p, ga, sa, n, rfl, mid.pot, by omega, by omega, fun H5 b but5 pot5 b0 bn => ⟨_, rfl, _, rfl, p, ga, sa, n, rfl, pot5, by omega, by omega, fun H6 a but6 pot6 a0 an => ⟨_, _, rfl, ?_⟩⟩⟩
      have mid6 := (mid.draw but5 pot5).draw but6 pot6
      by_cases hk1 : kind = 1
      · -- hits and misses
        subst hk1
        refine ⟨_, rfl, _, _, rfl, rfl, _, rfl, iteF ?_⟩
        refine ⟨_, rfl, rfl, _, rfl, iteT ?_⟩
        refine ⟨_, rfl, rfl, _, rfl, iteT ⟨_, rfl, p, ga, sa, 2, rfl, mid6.pot, by omega, by omega, fun H7 r but7 pot7 r0 r2 => ?_⟩⟩
        have mid7 := mid6.draw but7 pot7
        refine ⟨_, rfl, .inl ⟨rfl, _, SqL.of mid7.lst⟩, _, rfl, _, rfl, _, rfl, _, rfl, (by show 4 ≤ sizeLine; decide), fun t nt => ?_⟩
        have mid8 := mid7.new (o := .tup [.int b, .int a, .int 1, .int r]) nt
        exact ⟨ev, _, _, rfl, rfl, mid8.lst, las, as ++ [t], es ++ [⟨b, a, 1, r⟩], _, _, _, _, _, rfl, mid8.snoc (e := ⟨b, a, 1, r⟩) upd_same ⟨b0, bn, a0, an, by show (1 : Int) ≤ 1; omega, by show (1 : Int) ≤ 3; omega, by show -6 ≤ r; omega, by show r ≤ 6; omega⟩, by rw [List.length_append, len]; rfl⟩
      · have hkd : decide (V.int kind = V.int 1) = false := decide_eq_false fun z => hk1 (V.int.inj z)
        rcases Int.lt_or_le 1 kind with hk2 | hk2
        · refine ⟨_, rfl, _, _, rfl, rfl, _, rfl, ?_⟩
          rw [show decide ((1 : Int) < kind) = true from decide_eq_true hk2]
          refine iteT ?_
          have c1 := Int.emod_nonneg ((0 : Int) + (i : Int)) (b := n) (by omega)
          have c2 := Int.emod_lt_of_pos ((0 : Int) + (i : Int)) (b := n) (by omega)
          refine ⟨_, rfl, .inl ⟨_, rfl, _, rfl, _, _, rfl, rfl, by omega, ?_⟩⟩
          have c3 := Int.emod_nonneg ((((0 : Int) + (i : Int)) % n) + 1) (b := n) (by omega)
          have c4 := Int.emod_lt_of_pos ((((0 : Int) + (i : Int)) % n) + 1) (b := n) (by omega)
          refine ⟨_, rfl, _, rfl, _, _, rfl, rfl, .inl ⟨_, rfl, _, rfl, _, _, rfl, rfl, by omega, (by show 2 ≤ sizeLine; decide), fun tt ntt => ?_⟩⟩
          have mid7 := mid6.new (o := .tup [.int (((0 : Int) + (i : Int)) % n), .int ((((0 : Int) + (i : Int)) % n + 1) % n)]) ntt
          have htt : (upd H6 tt (.tup [.int (((0 : Int) + (i : Int)) % n), .int ((((0 : Int) + (i : Int)) % n + 1) % n)])) tt = some (.tup [.int (((0 : Int) + (i : Int)) % n), .int ((((0 : Int) + (i : Int)) % n + 1) % n)]) := upd_same
          refine ⟨_, rfl, p, ga, sa, 3, rfl, mid7.pot, by omega, by omega, fun H8 r but8 pot8 r0 r3 => ⟨_, _, rfl, rfl, .inr ⟨_, rfl, ?_⟩⟩⟩
          have mid8 := mid7.draw but8 pot8
          have htt8 := but8 _ _ htt (mid7.pot.tupNe htt).1 (mid7.pot.tupNe htt).2
          have hix : ∃ a', 0 ≤ a' ∧ a' < n ∧ atI [V.int (((0 : Int) + (i : Int)) % n), V.int ((((0 : Int) + (i : Int)) % n + 1) % n)] (if decide (0 < r) = true then 1 else 0) = some (.int a') := by
            by_cases z : 0 < r
            · rw [decide_eq_true z]
              exact ⟨((((0 : Int) + (i : Int)) % n + 1) % n), c3, c4, pat1⟩
            · rw [decide_eq_false z]
              exact ⟨(((0 : Int) + (i : Int)) % n), c1, c2, pat0⟩
          obtain ⟨a', a0', an', hat⟩ := hix
          refine ⟨tt, _, _, _, rfl, rfl, SqT.of htt8, hat, ?_⟩
          refine ⟨_, rfl, rfl, _, rfl, ?_⟩
          rw [hkd]
          refine iteF ⟨_, rfl, p, ga, sa, 3, rfl, mid8.pot, by omega, by omega, fun H9 t9 but9 pot9 t0 t3 => ⟨_, _, rfl, rfl, ?_⟩⟩
          have mid9 := mid8.draw but9 pot9
          refine ⟨_, rfl, rfl, _, rfl, ?_⟩
          rw [hkd]
          refine iteF ⟨_, rfl, p, ga, sa, 9, rfl, mid9.pot, by omega, by omega, fun H10 q10 but10 pot10 q0 q9 => ⟨_, _, rfl, rfl, ?_⟩⟩
          have mid10 := mid9.draw but10 pot10
          refine ⟨_, rfl, .inl ⟨rfl, _, SqL.of mid10.lst⟩, _, rfl, _, rfl, _, rfl, _, rfl, (by show 4 ≤ sizeLine; decide), fun t nt => ?_⟩
          have mid11 := mid10.new (o := .tup [.int (((0 : Int) + (i : Int)) % n), .int a', .int (1 + t9), .int (q10 - 4)]) nt
          exact ⟨ev, _, _, rfl, rfl, mid11.lst, las, as ++ [t], es ++ [⟨(((0 : Int) + (i : Int)) % n), a', 1 + t9, q10 - 4⟩], _, _, _, _, _, rfl, mid11.snoc (e := ⟨(((0 : Int) + (i : Int)) % n), a', 1 + t9, q10 - 4⟩) upd_same ⟨c1, c2, a0', an', by show 1 ≤ 1 + t9; omega, by show 1 + t9 ≤ 3; omega, by show -6 ≤ q10 - 4; omega, by show q10 - 4 ≤ 6; omega⟩, by rw [List.length_append, len]; rfl⟩
        · refine ⟨_, rfl, _, _, rfl, rfl, _, rfl, ?_⟩
          rw [show decide ((1 : Int) < kind) = false from decide_eq_false (by omega)]
          refine iteF ?_
          refine ⟨_, rfl, rfl, _, rfl, ?_⟩
          rw [hkd]
          refine iteF ⟨_, rfl, p, ga, sa, 3, rfl, mid6.pot, by omega, by omega, fun H9 t9 but9 pot9 t0 t3 => ⟨_, _, rfl, rfl, ?_⟩⟩
          have mid9 := mid6.draw but9 pot9
          refine ⟨_, rfl, rfl, _, rfl, ?_⟩
          rw [hkd]
          refine iteF ⟨_, rfl, p, ga, sa, 9, rfl, mid9.pot, by omega, by omega, fun H10 q10 but10 pot10 q0 q9 => ⟨_, _, rfl, rfl, ?_⟩⟩
          have mid10 := mid9.draw but10 pot10
          refine ⟨_, rfl, .inl ⟨rfl, _, SqL.of mid10.lst⟩, _, rfl, _, rfl, _, rfl, _, rfl, (by show 4 ≤ sizeLine; decide), fun t nt => ?_⟩
          have mid11 := mid10.new (o := .tup [.int b, .int a, .int (1 + t9), .int (q10 - 4)]) nt
          exact ⟨ev, _, _, rfl, rfl, mid11.lst, las, as ++ [t], es ++ [⟨b, a, 1 + t9, q10 - 4⟩], _, _, _, _, _, rfl, mid11.snoc (e := ⟨b, a, 1 + t9, q10 - 4⟩) upd_same ⟨b0, bn, a0, an, by show 1 ≤ 1 + t9; omega, by show 1 + t9 ≤ 3; omega, by show -6 ≤ q10 - 4; omega, by show q10 - 4 ≤ 6; omega⟩, by rw [List.length_append, len]; rfl⟩
    · rintro σ H4 ⟨as, es, v6, v7, v8, v9, v10, rfl, mid, len⟩
      refine ⟨_, rfl, _, rfl, ev, _, rfl, .inl ⟨SqL.of mid.lst, fun l nl => ⟨(by show 2 ≤ sizeLine; decide), fun q nq => ?_⟩⟩⟩
      have m1 := mid.new (o := .tup (as.map V.ref)) nl
      have m2 := m1.new (o := .tup [.int n, .ref l]) nq
      have hl : (upd (upd H4 l (.tup (as.map V.ref))) q (.tup [.int n, .ref l])) l = some (.tup (as.map V.ref)) := by rw [upd_ne (ne_of_none upd_same nq)]; exact upd_same
      exact k _ q n es ((but1.trans but2).trans m2.but) m2.pot ⟨l, upd_same, as, hl, m2.len, m2.at_⟩ ⟨n1, n4, by omega, m2.ok⟩
end
end Nv

/-! _law_gcd, _law_out, _law_sums. -/
namespace Nv
open PySem L2
abbrev sGcd : Stmt := top 34
abbrev sOut : Stmt := top 35
abbrev sSums : Stmt := top 40
def spGcd : Sp := fun vs H Q _ => ∃ i j : Int, vs = [.int i, .int j] ∧ -600 ≤ j ∧ j ≤ 600 ∧ Q (.int (Int.gcd i j : Nat)) H
def spOut : Sp := fun vs H Q _ => ∃ (q : Addr) (n s : Int) (es : List Ev), vs = [.ref q, .int s] ∧ PartsAt H q n es ∧ es.length ≤ 6 ∧ ∀ (H' : Hp) (l : Addr), Same H H' → H l = none → H' l = some (.lst (vN (outs es s))) → Q (.ref l) H'
def spSums : Sp := fun vs H Q _ => ∃ (q r : Addr) (n : Int) (es : List Ev) (ring : List Nat), vs = [.ref q, .ref r] ∧ PartsAt H q n es ∧ H r = some (.tup (vN ring)) ∧ (∀ i ∈ ring, i < es.length) ∧ ring.length ≤ 100 ∧
  ∀ (H' : Hp) (t : Addr), Same H H' → H' t = some (.tup [.int (sT es ring), .int (sP es ring)]) → Q (.ref t) H'
section
variable {P : Program} {w : World} {K : PySem.W.Frag} {mg : Str → Option Value} {base : Heap} {C : Addr}
theorem scGcd : FnScope ["_law_one", "_law_other", "_law_turn"] ["_law_one", "_law_other"] (defScope sGcd) := ⟨rfl, rfl, rfl, by decide +kernel, rfl, by decide +kernel, by decide +kernel⟩
theorem half_rest {a b : Int} (ha : b < a) (hb : 0 < b) : 2 * (a % b) < a := by
  have h1 := Int.emod_lt_of_pos a hb
  have h2 : a % b + b * (a / b) = a := Int.emod_add_mul_ediv a b
  have h3 : 1 ≤ a / b := (Int.le_ediv_iff_mul_le hb).mpr (by omega)
  have h4 : b * 1 ≤ b * (a / b) := Int.mul_le_mul_of_nonneg_left h3 (by omega)
  omega
theorem c_gcd (T : Txt mg) (D : DefOf K mg "_law_gcd" sGcd ["_law_one", "_law_other"]) : Cal P w K mg base 1 "_law_gcd" ["_law_one", "_law_other"] spGcd := by
  refine D.cal fun f fd F => F.ok scGcd (fun vs H Q E h => ?_) (fun cdv A outer s H vs Q E hr h => ?_)
  · obtain ⟨i, j, rfl, _⟩ := h
    rfl
  · obtain ⟨i, j, rfl, j0, j1, k⟩ := h
    refine ⟨_, pss_cons (ps_par (i := 0) (j := 1) (by rfl) scGcd.nd rfl rfl (by decide) rfl rfl (pa_cons (pe_callB call_abs (by rfl) T.abs (by decide +kernel) (pa_cons (pv 0) pa_nil)) (pa_cons (pe_callB call_abs (by rfl) T.abs (by decide +kernel) (pa_cons (pv 1) pa_nil)) pa_nil)) (by rfl))
      (pss_cons (ps_for PassesOwn.never rfl (pi_range1 rfl T.range (pa_cons pe_int pa_nil)) (pg_name (i := 2) scGcd.nd rfl (.inl rfl))
        (pss_cons (ps_if (pt_cmpR op_eq (pv 1) pe_int (nomark _)) (pss_one ps_break) pss_nil)
        (pss_one (ps_par (i := 0) (j := 1) (by rfl) scGcd.nd rfl rfl (by decide) rfl rfl (pa_cons (pv 1) (pa_cons (pe_op op_mod (pv 0) (pv 1)) pa_nil)) (by rfl)))))
      (pss_one (ps_ret (pv 0)))), ?_⟩
    refine ⟨_, rfl, _, rfl, _, rfl, _, rfl, _, _, rfl, ?_⟩
    refine ⟨400, rfl, by decide, by decide, for_range (lo := 0) (n := 400) (fun t σ H' => ∃ (a b : Int) (v2 : Option V), σ = [some (.int a), some (.int b), v2] ∧ H' = H ∧ 0 ≤ a ∧ 0 ≤ b ∧ Int.gcd a b = Int.gcd i j ∧ (t = 0 → b ≤ 600) ∧ (t = 1 → b < a ∧ a ≤ 600) ∧ (2 ≤ t → b < a ∧ b + t ≤ 301))
      ⟨_, _, none, rfl, rfl, abs_nn i, abs_nn j, abs_gcd i j, fun _ => by split <;> omega, fun z => by omega, fun z => by omega⟩ ?_ ?_⟩
    · rintro t σ H' ht ⟨a, b, v2, rfl, rfl, a0, b0, hg, h0, h1, h2⟩
      refine ⟨_, rfl, rfl, _, rfl, ?_⟩
      show if decide (V.int b = V.int 0) = true then _ else _
      rw [dec_int]
      by_cases hb : b = 0
      · rw [show (b == 0) = true from beq_iff_eq.mpr hb]
        refine iteT ⟨_, rfl, ?_⟩
        subst hb
        rw [← hg, gcd_zero a0] at k
        exact k
      · rw [show (b == 0) = false from beq_eq_false_iff_ne.mpr hb]
        have hb' : 0 < b := by omega
        refine iteF ⟨_, rfl, _, rfl, _, rfl, _, _, rfl, rfl, hb', _, _, rfl, ?_⟩
        have q1 := Int.emod_nonneg a (Int.ne_of_gt hb')
        have q2 := Int.emod_lt_of_pos a hb'
        refine ⟨b, a % b, _, rfl, rfl, b0, q1, gcd_step.trans hg, fun z => by omega, fun z => ⟨q2, ?_⟩, fun z => ⟨q2, ?_⟩⟩
        · exact h0 (by omega)
        · rcases Nat.lt_or_ge t 2 with y | y
          · have := h1 (by omega)
            have := half_rest this.1 hb'
            omega
          · have := h2 y
            omega
    · rintro σ H' ⟨a, b, v2, rfl, rfl, a0, b0, hg, h0, h1, h2⟩
      have := h2 (by decide)
      omega
theorem scOut : FnScope ["_law_parts_here", "_law_standing", "_law_number"] ["_law_parts_here", "_law_standing"] (defScope sOut) := ⟨rfl, rfl, rfl, by decide +kernel, rfl, by decide +kernel, by decide +kernel⟩
theorem c_out (T : Txt mg) (D : DefOf K mg "_law_out" sOut ["_law_parts_here", "_law_standing"]) : Cal P w K mg base 1 "_law_out" ["_law_parts_here", "_law_standing"] spOut := by
  refine D.cal fun f fd F => F.ok scOut (fun vs H Q E h => ?_) (fun cdv A outer s H vs Q E hr h => ?_)
  · obtain ⟨q, n, st, es, rfl, _⟩ := h
    rfl
  · obtain ⟨q, n, st, es, rfl, ⟨le, hq, as, a1, a2, a3⟩, hlen, k⟩ := h
    refine ⟨_, pss_one (ps_ret (pe_lc (own := [("_law_number", 2)]) (g := gName 2) (tt := tTest (tOp rEq (tOp (rIxT K) (tOp (rIxT K) (tOp (rIxT K) (tVar 0) (tC (.int 1))) (tVar 2)) (tC (.int 0))) (tVar 1))) rfl scOut.nd
        (pi_range1 rfl T.range (pa_cons (pe_callB call_len_seq (by rfl) T.len PySem.boot_len (pa_cons (pix 0) pa_nil)) pa_nil))
        (blkOk_by (own := [("_law_number", 2)]) (N := ["_law_parts_here", "_law_standing", "_law_number"]) (sc := defScope sOut) (by decide +kernel)) (fun _ _ _ _ _ => pg_name (i := 2) scOut.nd rfl (.inl rfl))
        (fun _ _ _ _ _ => pts_one (pt_cmpR op_eq (pe_ix ix_tup (pe_ix ix_tup (pix 0) (pv 2) (fun _ _ => rfl)) pe_int (fun _ _ => rfl)) (pv 1) (nomark _))) (fun _ _ _ _ _ => pv 2))), ?_⟩
    refine ⟨_, rfl, q, _, _, _, rfl, rfl, SqT.of hq, pat1, le, _, rfl, .inr (SqT.of a1), _, rfl, ?_, ?_, fun D nD => lc_range (lo := 0) (fun i H' => Same H H' ∧ H' D = some (.lst (vN (outs (es.take i) st)))) ⟨same_new (Same.refl _) nD, ?_⟩ ?_ ?_⟩
    · omega
    · rw [List.length_map]; omega
    · unfold outs
      rw [idx_nil]
      exact upd_same
    · rintro i H1 hi ⟨sm, hD⟩
      rw [List.length_map, a2] at hi
      obtain ⟨e, he⟩ := get_some (l := es) (i := i) (by omega)
      obtain ⟨xa, hxa, hxo⟩ := a3 i e he
      have ez : (0 : Int) + (i : Int) = ((i : Nat) : Int) := by omega
      refine ⟨rfl, _, rfl, q, _, _, _, rfl, rfl, SqT.of (sm _ _ hq), pat1, _, rfl, le, _, _, _, rfl, rfl, SqT.of (sm _ _ a1), at_of ez (ref_at hxa), xa, _, _, _, rfl, rfl, SqT.of (sm _ _ hxo), at0, _, rfl, rfl, _, rfl, ?_⟩
      show if decide (V.int e.b = V.int st) = true then _ else _
      rw [dec_int]
      by_cases hb : e.b = st
      · rw [show (e.b == st) = true from beq_iff_eq.mpr hb]
        refine iteT ⟨_, rfl, _, hD, ?_, same_upd sm nD, ?_⟩
        · rw [vN_len]
          have := idx_len (q := fun e' : Ev => decide (e'.b = st)) (es := es.take i)
          rw [List.length_take] at this
          exact small1000 (by unfold outs; omega)
        · rw [outs_succ he, if_pos hb, vN_app, upd_same, ez]
          rfl
      · rw [show (e.b == st) = false from beq_eq_false_iff_ne.mpr hb]
        refine iteF ⟨sm, ?_⟩
        rw [outs_succ he, if_neg hb, List.append_nil]
        exact hD
    · rintro H1 ⟨sm, hD⟩
      rw [List.length_map, a2, show ((es.length : Nat) : Int).toNat = es.length by omega, List.take_length] at hD
      exact k H1 D sm nD hD
theorem scSums : FnScope ["_law_parts_here", "_law_ring", "_law_tries", "_law_number"] ["_law_parts_here", "_law_ring"] (defScope sSums) := ⟨rfl, rfl, rfl, by decide +kernel, rfl, by decide +kernel, by decide +kernel⟩
theorem row_sum {es : List Ev} (g : Ev → Int) {ring : List Nat} {i : Nat} {k : Nat} (h : ring[i]? = some k) : (ring.take (i + 1)).map (fun j => (es[j]?.map g).getD 0) = (ring.take i).map (fun j => (es[j]?.map g).getD 0) ++ [(es[k]?.map g).getD 0] := by
  rw [take_snoc h, List.map_append]
  rfl
theorem c_sums (T : Txt mg) (D : DefOf K mg "_law_sums" sSums ["_law_parts_here", "_law_ring"]) : Cal P w K mg base 1 "_law_sums" ["_law_parts_here", "_law_ring"] spSums := by
  refine D.cal fun f fd F => F.ok scSums (fun vs H Q E h => ?_) (fun cdv A outer s H vs Q E hr h => ?_)
  · obtain ⟨q, r, n, es, ring, rfl, _⟩ := h
    rfl
  · obtain ⟨q, r, n, es, ring, rfl, ⟨le, hq, as, a1, a2, a3⟩, hr', hin, hlen, k⟩ := h
    refine ⟨_, pss_cons (ps_set (i := 2) scSums.nd rfl (.inl rfl) (pe_callB (cr_sum rfl) (by rfl) T.sum (by decide +kernel) (pa_cons
        (pe_lc (own := [("_law_number", 3)]) (g := gName 3) (tt := tYes) (te := tOp (rIxT K) (tOp (rIxT K) (tOp (rIxT K) (tVar 0) (tC (.int 1))) (tVar 3)) (tC (.int 2))) rfl scSums.nd (pi_tup (pv 1))
          (blkOk_by (own := [("_law_number", 3)]) (N := ["_law_parts_here", "_law_ring", "_law_tries", "_law_number"]) (sc := defScope sSums) (by decide +kernel)) (fun _ _ _ _ _ => pg_name (i := 3) scSums.nd rfl (.inl rfl))
          (fun _ _ _ _ _ => pts_nil) (fun _ _ _ _ _ => pe_ix ix_tup (pe_ix ix_tup (pix 0) (pv 3) (fun _ _ => rfl)) pe_int (fun _ _ => rfl))) pa_nil)))
      (pss_one (ps_ret (pe_tup (pa_cons (pv 2) (pa_cons (pe_callB (cr_sum rfl) (by rfl) T.sum (by decide +kernel) (pa_cons
        (pe_lc (own := [("_law_number", 3)]) (g := gName 3) (tt := tYes) (te := tOp (rIxT K) (tOp (rIxT K) (tOp (rIxT K) (tVar 0) (tC (.int 1))) (tVar 3)) (tC (.int 3))) rfl scSums.nd (pi_tup (pv 1))
          (blkOk_by (own := [("_law_number", 3)]) (N := ["_law_parts_here", "_law_ring", "_law_tries", "_law_number"]) (sc := defScope sSums) (by decide +kernel)) (fun _ _ _ _ _ => pg_name (i := 3) scSums.nd rfl (.inl rfl))
          (fun _ _ _ _ _ => pts_nil) (fun _ _ _ _ _ => pe_ix ix_tup (pe_ix ix_tup (pix 0) (pv 3) (fun _ _ => rfl)) pe_int (fun _ _ => rfl))) pa_nil)) pa_nil))))), ?_⟩
    refine ⟨_, rfl, r, rfl, ⟨_, SqT.of hr'⟩, fun D nD => lc_tup (K := K) (a := r) (xs := vN ring) (fun i H1 => Same H H1 ∧ H1 D = some (.lst (vI ((ring.take i).map fun j => (es[j]?.map Ev.t).getD 0)))) ⟨same_new (Same.refl _) nD, upd_same⟩ (fun i H1 _ g => SqT.of (g.1 _ _ hr')) ?_ ?_⟩
    · rintro i x H1 hi ⟨sm, hD⟩
      obtain ⟨m, hm, rfl⟩ := at_vN hi
      obtain ⟨e, he⟩ := get_some (hin m (List.mem_of_getElem? hm))
      obtain ⟨xa, hxa, hxo⟩ := a3 m e he
      have hil := (List.getElem?_eq_some_iff.mp hm).1
      refine ⟨rfl, _, rfl, q, _, _, _, rfl, rfl, SqT.of (sm _ _ hq), pat1, _, rfl, le, _, _, _, rfl, rfl, SqT.of (sm _ _ a1), at_of (j := m) rfl (ref_at hxa), xa, _, _, _, rfl, rfl, SqT.of (sm _ _ hxo), at2, _, hD, ?_, same_upd sm nD, ?_⟩
      · rw [vI_len, List.length_map, List.length_take]; exact small1000 (by omega)
      · rw [row_sum Ev.t hm, vI_app, upd_same, he]
        rfl
    rintro H1 ⟨sm1, hD1⟩
    rw [vN_len, List.take_length] at hD1
    refine ⟨D, _, rfl, SqL.of hD1, ?_⟩
    refine ⟨_, rfl, _, rfl, r, rfl, ⟨_, SqT.of (sm1 _ _ hr')⟩, fun D2 nD2 => lc_tup (K := K) (a := r) (xs := vN ring) (fun i H2 => Same H1 H2 ∧ H2 D2 = some (.lst (vI ((ring.take i).map fun j => (es[j]?.map Ev.p).getD 0)))) ⟨same_new (Same.refl _) nD2, upd_same⟩ (fun i H2 _ g => SqT.of (g.1 _ _ (sm1 _ _ hr'))) ?_ ?_⟩
    · rintro i x H2 hi ⟨sm, hD2⟩
      obtain ⟨m, hm, rfl⟩ := at_vN hi
      obtain ⟨e, he⟩ := get_some (hin m (List.mem_of_getElem? hm))
      obtain ⟨xa, hxa, hxo⟩ := a3 m e he
      have hil := (List.getElem?_eq_some_iff.mp hm).1
      have sm02 : Same H H2 := sm1.trans sm
      refine ⟨rfl, _, rfl, q, _, _, _, rfl, rfl, SqT.of (sm02 _ _ hq), pat1, _, rfl, le, _, _, _, rfl, rfl, SqT.of (sm02 _ _ a1), at_of (j := m) rfl (ref_at hxa), xa, _, _, _, rfl, rfl, SqT.of (sm02 _ _ hxo), at3, _, hD2, ?_, same_upd sm nD2, ?_⟩
      · rw [vI_len, List.length_map, List.length_take]; exact small1000 (by omega)
      · rw [row_sum Ev.p hm, vI_app, upd_same, he]
        rfl
    rintro H2 ⟨sm2, hD2⟩
    rw [vN_len, List.take_length] at hD2
    exact ⟨D2, _, rfl, SqL.of hD2, (by show 2 ≤ sizeLine; decide), fun t nt => k _ t (same_new (sm1.trans sm2) nt) upd_same⟩
end
end Nv

/-! _law_reached, _law_leads, _law_knot. -/
namespace Nv
open PySem L2
abbrev sLReached : Stmt := top 36
abbrev sLeads : Stmt := top 37
abbrev sLKnot : Stmt := top 38
def spLReached : Sp := fun vs H Q _ => ∃ (q : Addr) (n : Int) (es : List Ev), vs = [.ref q] ∧ PartsAt H q n es ∧ OkParts n es ∧
  ∀ (H' : Hp) (l : Addr) (ys : List Int), Same H H' → H l = none → H' l = some (.lst (vI ys)) → (∀ y ∈ ys, Reach es 0 y) → Q (.ref l) H'
def spLeads : Sp := fun vs H Q _ => ∃ (q : Addr) (n s : Int) (es : List Ev), vs = [.ref q, .int s] ∧ PartsAt H q n es ∧ OkParts n es ∧ 0 ≤ s ∧ s < n ∧
  ∀ (H' : Hp) (l : Addr) (ys : List Int), Same H H' → H l = none → H' l = some (.lst (vI ys)) → ys.Nodup → (∀ v, v ∈ ys ↔ Reach es s v) → Q (.ref l) H'
def spLKnot : Sp := fun vs H Q _ => ∃ (q : Addr) (n s : Int) (es : List Ev), vs = [.ref q, .int s] ∧ PartsAt H q n es ∧ OkParts n es ∧ 0 ≤ s ∧ s < n ∧
  ∀ (H' : Hp) (l : Addr) (ys : List Int), Same H H' → H l = none → H' l = some (.lst (vI ys)) → ys.Nodup → (∀ v, v ∈ ys ↔ Knot es s v) → Q (.ref l) H'
section
variable {P : Program} {w : World} {K : PySem.W.Frag} {mg : Str → Option Value} {base : Heap} {C : Addr}
abbrev CalOut (P : Program) (w : World) (K : PySem.W.Frag) (mg : Str → Option Value) (base : Heap) : Prop := Cal P w K mg base 1 "_law_out" ["_law_parts_here", "_law_standing"] spOut
theorem scLReached : FnScope ["_law_parts_here", "_law_found", "_law_at", "_law_number"] ["_law_parts_here"] (defScope sLReached) := ⟨rfl, rfl, rfl, by decide +kernel, rfl, by decide +kernel, by decide +kernel⟩
theorem dec_not {b : Bool} : (if (true : Bool) = true then !b else b) = !b := rfl
theorem c_lreached (T : Txt mg) (cO : CalOut P w K mg base) (D : DefOf K mg "_law_reached" sLReached ["_law_parts_here"]) : Cal P w K mg base 2 "_law_reached" ["_law_parts_here"] spLReached := by
  refine D.cal fun f fd F => F.ok scLReached (fun vs H Q E h => ?_) (fun cdv A outer s H vs Q E hr h => ?_)
  · obtain ⟨q, n, es, rfl, _⟩ := h
    rfl
  · obtain ⟨q, n, es, rfl, hP, ok, k⟩ := h
    obtain ⟨le, hq, as, a1, a2, a3⟩ := id hP
    have n1 := ok.n1
    have n4 := ok.n4
    refine ⟨_, pss_cons (ps_set (i := 1) scLReached.nd rfl (.inl rfl) (pe_lst (pa_cons pe_int pa_nil)))
      (pss_cons (ps_for PassesOwn.never rfl (pi_range1 rfl T.range (pa_cons (pix 0) pa_nil)) (pg_name (i := 2) scLReached.nd rfl (.inl rfl))
        (pss_one (ps_if (pt_cmpR op_lt (pv 2) (pe_callB call_len_seq (by rfl) T.len PySem.boot_len (pa_cons (pv 1) pa_nil)) (nomark _))
          (pss_one (ps_for PassesOwn.never rfl (pi_list (pcal cO hr (pa_cons (pv 0) (pa_cons (pe_ix ix_list (pv 1) (pv 2) (fun _ _ => rfl)) pa_nil)))) (pg_name (i := 3) scLReached.nd rfl (.inl rfl))
            (pss_one (ps_if (pt_cmpR op_notIn_seq (pe_ix ix_tup (pe_ix ix_tup (pix 0) (pv 3) (fun _ _ => rfl)) pe_int (fun _ _ => rfl)) (pv 1) (by rfl))
              (pss_one (ps_expr (pe_bm PySem.F.plainAttrs_list PySem.F.slot_list_append PySem.F.type_list_append mt_append (pv 1) (pa_cons (pe_ix ix_tup (pe_ix ix_tup (pix 0) (pv 3) (fun _ _ => rfl)) pe_int (fun _ _ => rfl)) pa_nil)))) pss_nil)))) pss_nil)))
      (pss_one (ps_ret (pe_callB cr_sorted (by rfl) T.sorted (by decide +kernel) (pa_cons (pv 1) pa_nil))))), ?_⟩
    refine ⟨by show 1 ≤ sizeLine; decide, fun fl nfl => ?_⟩
    have sm0 := same_new (o := .lst [.int 0]) (Same.refl H) nfl
    refine ⟨_, rfl, q, _, _, _, rfl, rfl, SqT.of (sm0 _ _ hq), pat0, _, rfl, by omega, by omega, for_range (lo := 0) (fun i σ H1 => ∃ (fs : List Int) (v2 v3 : Option V), σ = [some (.ref q), some (.ref fl), v2, v3] ∧ Same H H1 ∧ H1 fl = some (.lst (vI fs)) ∧ fs.Nodup ∧ ∀ y ∈ fs, Reach es 0 y)
      ⟨[0], none, none, rfl, sm0, upd_same, by simp, fun y hy => by rw [List.mem_singleton.mp hy]; exact Reach.refl _⟩ ?_ ?_⟩
    · rintro i σ H1 hi ⟨fs, v2, v3, rfl, sm1, hf1, nd1, re1⟩
      refine ⟨_, rfl, _, rfl, fl, _, rfl, .inl (SqL.of hf1), _, _, rfl, rfl, _, rfl, ite2 (fun hlt => ?_) (fun _ => ?_)⟩
      · have hlt' : (0 : Int) + (i : Int) < ((vI fs).length : Nat) := of_decide_eq_true hlt
        rw [vI_len] at hlt'
        obtain ⟨x, hx⟩ := get_some (l := fs) (i := i) (by omega)
        have hatx : atI (vI fs) ((0 : Int) + (i : Int)) = some (.int x) := at_of (j := i) (by omega) (by unfold vI; rw [List.getElem?_map, hx]; rfl)
        have hxr := re1 x (List.mem_of_getElem? hx)
        refine ⟨_, rfl, _, rfl, _, rfl, fl, _, _, _, rfl, rfl, SqL.of hf1, hatx, q, n, x, es, rfl, hP.same sm1, ok.len, fun H2 ol sm2 nol hol => ⟨ol, rfl, ⟨_, SqL.of hol⟩, for_list (K := K) (a := ol) (xs := vN (outs es x))
          (fun j σ H3 => ∃ (fs : List Int) (v3 : Option V), σ = [some (.ref q), some (.ref fl), some (.int (0 + (i : Int))), v3] ∧ Same H H3 ∧ H3 fl = some (.lst (vI fs)) ∧ H3 ol = some (.lst (vN (outs es x))) ∧ fs.Nodup ∧ ∀ y ∈ fs, Reach es 0 y)
          ⟨fs, v3, rfl, sm1.trans sm2, sm2 _ _ hf1, hol, nd1, re1⟩ (fun j σ H3 _ ⟨_, _, _, _, _, g, _⟩ => SqL.of g) ?_ ?_⟩⟩
        · rintro j y σ H3 hj ⟨fs, v3, rfl, sm3, hf3, ho3, nd3, re3⟩
          obtain ⟨m, hm, rfl⟩ := at_vN hj
          obtain ⟨e, he, hb⟩ := mem_idx.mp (List.mem_of_getElem? hm)
          have hb' : e.b = x := of_decide_eq_true hb
          obtain ⟨xa, hxa, hxo⟩ := a3 m e he
          have lf : fs.length ≤ n.toNat := nodup_ints_len nd3 fun v hv => reach_in ok (Int.le_refl _) (by omega) (re3 v hv)
          refine ⟨_, rfl, q, _, _, _, rfl, rfl, SqT.of (sm3 _ _ hq), pat1, _, rfl, le, _, _, _, rfl, rfl, SqT.of (sm3 _ _ a1), at_of (j := m) rfl (ref_at hxa), xa, _, _, _, rfl, rfl, SqT.of (sm3 _ _ hxo), at1, _, rfl, fl, _, rfl, .inl (SqL.of hf3), rfl, flat_vI fs, _, rfl, ?_⟩
          show if (!inV (.int e.a) (vI fs)) = true then _ else _
          rw [inV_int]
          by_cases hin : e.a ∈ fs
          · rw [decide_eq_true hin]
            exact iteF ⟨fs, _, rfl, sm3, hf3, ho3, nd3, re3⟩
          · rw [decide_eq_false hin]
            refine iteT ⟨_, rfl, .inl ⟨rfl, _, SqL.of hf3⟩, _, rfl, q, _, _, _, rfl, rfl, SqT.of (sm3 _ _ hq), pat1, _, rfl, le, _, _, _, rfl, rfl, SqT.of (sm3 _ _ a1), at_of (j := m) rfl (ref_at hxa), xa, _, _, _, rfl, rfl, SqT.of (sm3 _ _ hxo), at1, fl, _, _, rfl, rfl, hf3, small1000 (by rw [vI_len]; omega), ?_⟩
            have of : ol ≠ fl := fun z => by rw [z, hf1] at nol; cases nol
            refine ⟨fs ++ [e.a], _, rfl, same_upd sm3 nfl, by rw [vI_app]; exact upd_same, by rw [upd_ne of]; exact ho3, nd_snoc nd3 hin, fun y hy => ?_⟩
            rcases List.mem_append.1 hy with hy | hy
            · exact re3 y hy
            · rw [List.mem_singleton.mp hy]
              exact (show Reach es 0 e.b by rw [hb']; exact hxr).step he
        · rintro σ H3 ⟨fs, v3, rfl, sm3, hf3, ho3, nd3, re3⟩
          exact ⟨fs, _, _, rfl, sm3, hf3, nd3, re3⟩
      · exact ⟨fs, _, _, rfl, sm1, hf1, nd1, re1⟩
    · rintro σ H1 ⟨fs, v2, v3, rfl, sm1, hf1, nd1, re1⟩
      have lf : fs.length ≤ n.toNat := nodup_ints_len nd1 fun v hv => reach_in ok (Int.le_refl _) (by omega) (re1 v hv)
      exact ⟨_, rfl, fl, fs, rfl, SqL.of hf1, by omega, fun ys p pm asc np => k _ p ys (same_new sm1 np) (sm1.free np) upd_same fun y hy => re1 y (pm.mem_iff.mp hy)⟩
theorem scLeads : FnScope ["_law_parts_here", "_law_start", "_law_found", "_law_at", "_law_number"] ["_law_parts_here", "_law_start"] (defScope sLeads) := ⟨rfl, rfl, rfl, by decide +kernel, rfl, by decide +kernel, by decide +kernel⟩
theorem c_leads (T : Txt mg) (cO : CalOut P w K mg base) (D : DefOf K mg "_law_leads" sLeads ["_law_parts_here", "_law_start"]) : Cal P w K mg base 2 "_law_leads" ["_law_parts_here", "_law_start"] spLeads := by
  refine D.cal fun f fd F => F.ok scLeads (fun vs H Q E h => ?_) (fun cdv A outer s H vs Q E hr h => ?_)
  · obtain ⟨q, n, st, es, rfl, _⟩ := h
    rfl
  · obtain ⟨q, n, st, es, rfl, hP, ok, st0, st1, k⟩ := h
    obtain ⟨le, hq, as, a1, a2, a3⟩ := id hP
    have n4 := ok.n4
    refine ⟨_, pss_cons (ps_set (i := 2) scLeads.nd rfl (.inl rfl) (pe_lst (pa_cons (pv 1) pa_nil)))
      (pss_cons (ps_set (i := 3) scLeads.nd rfl (.inl rfl) pe_int)
      (pss_cons (ps_while PassesOwn.never (pt_cmpR op_lt (pv 3) (pe_callB call_len_seq (by rfl) T.len PySem.boot_len (pa_cons (pv 2) pa_nil)) (nomark _))
        (pss_cons (ps_for PassesOwn.never rfl (pi_list (pcal cO hr (pa_cons (pv 0) (pa_cons (pe_ix ix_list (pv 2) (pv 3) (fun _ _ => rfl)) pa_nil)))) (pg_name (i := 4) scLeads.nd rfl (.inl rfl))
            (pss_one (ps_if (pt_cmpR op_notIn_seq (pe_ix ix_tup (pe_ix ix_tup (pix 0) (pv 4) (fun _ _ => rfl)) pe_int (fun _ _ => rfl)) (pv 2) (by rfl))
              (pss_one (ps_expr (pe_bm PySem.F.plainAttrs_list PySem.F.slot_list_append PySem.F.type_list_append mt_append (pv 2) (pa_cons (pe_ix ix_tup (pe_ix ix_tup (pix 0) (pv 4) (fun _ _ => rfl)) pe_int (fun _ _ => rfl)) pa_nil)))) pss_nil)))
        (pss_one (ps_set (i := 3) scLeads.nd rfl (.inl rfl) (pe_op op_add (pv 3) pe_int)))))
      (pss_one (ps_ret (pv 2))))), ?_⟩
    refine ⟨_, rfl, by show 1 ≤ sizeLine; decide, fun fl nfl => ?_⟩
    have sm0 := same_new (o := .lst [.int st]) (Same.refl H) nfl
    show tSeq _ _ _ _ _
    refine ⟨fun m σ H1 => ∃ (fs : List Int) (at_ : Nat) (v4 : Option V), σ = [some (.ref q), some (.int st), some (.ref fl), some (.int (at_ : Int)), v4] ∧ Same H H1 ∧ H1 fl = some (.lst (vI fs)) ∧ fs.Nodup ∧ st ∈ fs ∧ (∀ y ∈ fs, Reach es st y) ∧ (∀ (j : Nat) y, j < at_ → fs[j]? = some y → Done es fs y) ∧ at_ ≤ fs.length ∧ n.toNat - at_ = m,
      ⟨_, [st], 0, none, rfl, sm0, upd_same, by simp, by simp, fun y hy => by rw [List.mem_singleton.mp hy]; exact Reach.refl _, fun j y hj => absurd hj (Nat.not_lt_zero _), Nat.zero_le _, rfl⟩, ?_⟩
    rintro m0 σ H1 ⟨fs, at_, v4, rfl, sm1, hf1, nd1, hs1, re1, dn1, la1, hm0⟩
    refine ⟨_, rfl, _, rfl, fl, _, rfl, .inl (SqL.of hf1), _, _, rfl, rfl, _, rfl, ite2 (fun hlt => ?_) (fun hlt => ?_)⟩
    · have hlt' : (at_ : Int) < ((vI fs).length : Nat) := of_decide_eq_true hlt
      rw [vI_len] at hlt'
      obtain ⟨x, hx⟩ := get_some (l := fs) (i := at_) (by omega)
      have hatx : atI (vI fs) (at_ : Int) = some (.int x) := at_of (j := at_) rfl (by unfold vI; rw [List.getElem?_map, hx]; rfl)
      have hxr := re1 x (List.mem_of_getElem? hx)
      refine ⟨_, fun σ' H' z => z, ?_⟩
      refine ⟨_, rfl, _, rfl, _, rfl, fl, _, _, _, rfl, rfl, SqL.of hf1, hatx, q, n, x, es, rfl, hP.same sm1, ok.len, fun H2 ol sm2 nol hol => ⟨ol, rfl, ⟨_, SqL.of hol⟩, for_list (K := K) (a := ol) (xs := vN (outs es x))
        (fun j σ H3 => ∃ (gs : List Int) (v4 : Option V), σ = [some (.ref q), some (.int st), some (.ref fl), some (.int (at_ : Int)), v4] ∧ Same H H3 ∧ H3 fl = some (.lst (vI (fs ++ gs))) ∧ H3 ol = some (.lst (vN (outs es x))) ∧ (fs ++ gs).Nodup ∧ (∀ y ∈ gs, Reach es st y) ∧ (∀ (i r : Nat) e, i < j → (outs es x)[i]? = some r → es[r]? = some e → e.a ∈ fs ++ gs))
        ⟨[], v4, rfl, sm1.trans sm2, by rw [List.append_nil]; exact sm2 _ _ hf1, hol, by rw [List.append_nil]; exact nd1, by simp, fun i r e hi => absurd hi (Nat.not_lt_zero _)⟩ (fun j σ H3 _ ⟨_, _, _, _, _, g, _⟩ => SqL.of g) ?_ ?_⟩⟩
      · rintro j y σ H3 hj ⟨gs, v4, rfl, sm3, hf3, ho3, nd3, re3, al3⟩
        obtain ⟨m, hm, rfl⟩ := at_vN hj
        obtain ⟨e, he, hb⟩ := mem_idx.mp (List.mem_of_getElem? hm)
        have hb' : e.b = x := of_decide_eq_true hb
        obtain ⟨xa, hxa, hxo⟩ := a3 m e he
        have rall : ∀ v ∈ fs ++ gs, Reach es st v := fun v hv => (List.mem_append.mp hv).elim (re1 v) (re3 v)
        have lf : (fs ++ gs).length ≤ n.toNat := nodup_ints_len nd3 fun v hv => reach_in ok st0 st1 (rall v hv)
        have hout : ∀ {ks' : List Int}, (∀ z ∈ fs ++ gs, z ∈ ks') → e.a ∈ ks' → ∀ (i r : Nat) e', i < j + 1 → (outs es x)[i]? = some r → es[r]? = some e' → e'.a ∈ ks' := fun hsub hin i r e' hi hk he' => by
          rcases Nat.lt_or_ge i j with z | z
          · exact hsub _ (al3 i r e' z hk he')
          · have : i = j := by omega
            subst this
            rw [hm] at hk
            cases hk
            rw [he] at he'
            cases he'
            exact hin
        refine ⟨_, rfl, q, _, _, _, rfl, rfl, SqT.of (sm3 _ _ hq), pat1, _, rfl, le, _, _, _, rfl, rfl, SqT.of (sm3 _ _ a1), at_of (j := m) rfl (ref_at hxa), xa, _, _, _, rfl, rfl, SqT.of (sm3 _ _ hxo), at1, _, rfl, fl, _, rfl, .inl (SqL.of hf3), rfl, flat_vI _, _, rfl, ?_⟩
        show if (!inV (.int e.a) (vI (fs ++ gs))) = true then _ else _
        rw [inV_int]
        by_cases hin : e.a ∈ fs ++ gs
        · rw [decide_eq_true hin]
          exact iteF ⟨gs, _, rfl, sm3, hf3, ho3, nd3, re3, hout (fun _ z => z) hin⟩
        · rw [decide_eq_false hin]
          refine iteT ⟨_, rfl, .inl ⟨rfl, _, SqL.of hf3⟩, _, rfl, q, _, _, _, rfl, rfl, SqT.of (sm3 _ _ hq), pat1, _, rfl, le, _, _, _, rfl, rfl, SqT.of (sm3 _ _ a1), at_of (j := m) rfl (ref_at hxa), xa, _, _, _, rfl, rfl, SqT.of (sm3 _ _ hxo), at1, fl, _, _, rfl, rfl, hf3, small1000 (by rw [vI_len]; omega), ?_⟩
          have of : ol ≠ fl := fun z => by rw [z, hf1] at nol; cases nol
          refine ⟨gs ++ [e.a], _, rfl, same_upd sm3 nfl, by rw [← List.append_assoc, vI_app (l := fs ++ gs)]; exact upd_same, by rw [upd_ne of]; exact ho3, by rw [← List.append_assoc]; exact nd_snoc nd3 hin, fun y hy => ?_, by rw [← List.append_assoc]; exact hout (fun z hz => List.mem_append_left _ hz) (by simp)⟩
          rcases List.mem_append.1 hy with hy | hy
          · exact re3 y hy
          · rw [List.mem_singleton.mp hy]
            exact (show Reach es st e.b by rw [hb']; exact hxr).step he
      · rintro σ H3 ⟨gs, v4, rfl, sm3, hf3, ho3, nd3, re3, al3⟩
        have rall : ∀ v ∈ fs ++ gs, Reach es st v := fun v hv => (List.mem_append.mp hv).elim (re1 v) (re3 v)
        have lf : (fs ++ gs).length ≤ n.toNat := nodup_ints_len nd3 fun v hv => reach_in ok st0 st1 (rall v hv)
        rw [List.length_append] at lf
        refine ⟨_, rfl, _, _, rfl, rfl, n.toNat - (at_ + 1), by omega, fs ++ gs, at_ + 1, v4, ?_, sm3, hf3, nd3, List.mem_append_left _ hs1, rall, fun j y hj hy => ?_, by rw [List.length_append]; omega, rfl⟩
        · show [some (V.ref q), some (V.int st), some (V.ref fl), some (V.int ((at_ : Int) + 1)), v4] = _
          have : (at_ : Int) + 1 = ((at_ + 1 : Nat) : Int) := by omega
          rw [this]
        · rcases Nat.lt_or_ge j at_ with z | z
          · rw [List.getElem?_append_left (by omega)] at hy
            exact fun i e he hb => List.mem_append_left _ (dn1 j y z hy i e he hb)
          · have : j = at_ := by omega
            subst this
            rw [List.getElem?_append_left (by omega), hx] at hy
            cases hy
            intro i e he hb
            have hmi : i ∈ outs es x := mem_idx.mpr ⟨e, he, decide_eq_true hb⟩
            obtain ⟨r, hr', hre⟩ := List.mem_iff_getElem.mp hmi
            exact al3 r i e (by rw [vN_len]; exact hr') (by rw [List.getElem?_eq_getElem hr', hre]) he
    · have hge : ¬ ((at_ : Int) < ((vI fs).length : Nat)) := fun z => hlt (decide_eq_true z)
      rw [vI_len] at hge
      refine ⟨_, rfl, k H1 fl fs sm1 nfl hf1 nd1 fun v => ⟨re1 v, fun r => ?_⟩⟩
      refine r.closed (S := fun y => y ∈ fs) hs1 fun i e he hb => ?_
      obtain ⟨j, hj, hje⟩ := List.mem_iff_getElem.mp hb
      exact dn1 j e.b (by omega) (by rw [List.getElem?_eq_getElem hj, hje]) i e he rfl
theorem scLKnot : FnScope ["_law_parts_here", "_law_standing", "_law_other"] ["_law_parts_here", "_law_standing"] (defScope sLKnot) := ⟨rfl, rfl, rfl, by decide +kernel, rfl, by decide +kernel, by decide +kernel⟩
theorem c_lknot (T : Txt mg) (cL : Cal P w K mg base 2 "_law_leads" ["_law_parts_here", "_law_start"] spLeads) (D : DefOf K mg "_law_knot" sLKnot ["_law_parts_here", "_law_standing"]) : Cal P w K mg base 3 "_law_knot" ["_law_parts_here", "_law_standing"] spLKnot := by
  refine D.cal fun f fd F => F.ok scLKnot (fun vs H Q E h => ?_) (fun cdv A outer s H vs Q E hr h => ?_)
  · obtain ⟨q, n, st, es, rfl, _⟩ := h
    rfl
  · obtain ⟨q, n, st, es, rfl, hP, ok, st0, st1, k⟩ := h
    have n4 := ok.n4
    refine ⟨_, pss_one (ps_ret (pe_lc (own := [("_law_other", 2)]) (g := gName 2) (tt := tTest (tOp (rIn K false) (tVar 1) (tCall spLeads [] E0 (tCons (tVar 0) (tCons (tVar 2) tNil))))) rfl scLKnot.nd
        (pi_list (pe_callB cr_sorted (by rfl) T.sorted (by decide +kernel) (pa_cons (pcal cL hr (pa_cons (pv 0) (pa_cons (pv 1) pa_nil))) pa_nil)))
        (blkOk_by (own := [("_law_other", 2)]) (N := ["_law_parts_here", "_law_standing", "_law_other"]) (sc := defScope sLKnot) (by decide +kernel)) (fun _ _ _ _ _ => pg_name (i := 2) scLKnot.nd rfl (.inl rfl))
        (fun _ _ _ _ _ => pts_one (pt_cmpR op_in_seq (pv 1) (pcal cL hr (pa_cons (pv 0) (pa_cons (pv 2) pa_nil))) (by rfl))) (fun _ _ _ _ _ => pv 2))), ?_⟩
    refine ⟨_, rfl, _, rfl, q, n, st, es, rfl, hP, ok, st0, st1, fun H1 l0 xs sm1 nl0 hl0 nd0 hx0 => ?_⟩
    have lx : xs.length ≤ n.toNat := nodup_ints_len nd0 fun v hv => reach_in ok st0 st1 ((hx0 v).mp hv)
    refine ⟨l0, xs, rfl, SqL.of hl0, by omega, fun ys p pm asc np => ⟨p, rfl, ⟨_, SqL.of upd_same⟩, fun D nD => ?_⟩⟩
    have sm2 := same_new (o := .lst (ys.map V.int)) sm1 np
    have hp2 : (upd H1 p (.lst (ys.map V.int))) p = some (.lst (vI ys)) := upd_same
    generalize upd H1 p (.lst (ys.map V.int)) = H2 at sm2 hp2 nD ⊢
    have nyd : ys.Nodup := pm.nodup_iff.mpr nd0
    have ly := pm.length_eq
    refine lc_list (K := K) (a := p) (xs := vI ys) (fun i H3 => ∃ acc : List Int, Same H2 H3 ∧ H3 D = some (.lst (vI acc)) ∧ acc.length ≤ i ∧ acc.Nodup ∧ ∀ v, v ∈ acc ↔ v ∈ ys.take i ∧ Reach es v st) ⟨[], same_new (Same.refl _) nD, upd_same, Nat.le_refl _, List.nodup_nil, by simp⟩ (fun i H3 _ ⟨_, g, _⟩ => SqL.of (g _ _ hp2)) ?_ ?_
    · rintro i x H3 hi ⟨acc, sm3, hD3, la3, nda, mem3⟩
      obtain ⟨u, hu, rfl⟩ := at_vI hi
      have hur : Reach es st u := (hx0 u).mp (pm.mem_iff.mp (List.mem_of_getElem? hu))
      obtain ⟨u0, u1⟩ := reach_in ok st0 st1 hur
      have hil := (List.getElem?_eq_some_iff.mp hu).1
      refine ⟨rfl, _, rfl, _, rfl, _, rfl, q, n, u, es, rfl, hP.same (sm2.trans sm3), ok, u0, u1, fun H4 l4 zs sm4 nl4 hl4 nd4 hz4 => ⟨l4, _, rfl, .inl (SqL.of hl4), rfl, flat_vI zs, _, rfl, ?_⟩⟩
      show if inV (.int st) (vI zs) = true then _ else _
      rw [inV_int]
      by_cases hin : st ∈ zs
      · rw [decide_eq_true hin]
        refine iteT ⟨_, rfl, _, sm4 _ _ hD3, small1000 (by rw [vI_len]; omega), acc ++ [u], same_upd (sm3.trans sm4) nD, by rw [vI_app]; exact upd_same, by rw [List.length_append]; exact Nat.succ_le_succ la3, nd_snoc nda (fun z => take_notin nyd hu ((mem3 u).mp z).1), fun v => ?_⟩
        rw [take_snoc hu, List.mem_append, List.mem_append, mem3]
        constructor
        · rintro (h | h)
          · exact ⟨.inl h.1, h.2⟩
          · refine ⟨.inr h, ?_⟩
            rw [List.mem_singleton.mp h]
            exact (hz4 st).mp hin
        · rintro ⟨h | h, g⟩
          · exact .inl ⟨h, g⟩
          · exact .inr h
      · rw [decide_eq_false hin]
        refine iteF ⟨acc, sm3.trans sm4, sm4 _ _ hD3, by omega, nda, fun v => ?_⟩
        rw [mem3, take_snoc hu, List.mem_append]
        constructor
        · rintro ⟨h, g⟩
          exact ⟨.inl h, g⟩
        · rintro ⟨h | h, g⟩
          · exact ⟨h, g⟩
          · rw [List.mem_singleton.mp h] at g
            exact absurd ((hz4 st).mpr g) hin
    · rintro H3 ⟨acc, sm3, hD3, la3, nda, mem3⟩
      rw [vI_len, List.take_length] at mem3
      exact k H3 D acc (sm2.trans sm3) (sm2.free nD) hD3 nda fun v => by rw [mem3, pm.mem_iff, hx0]; exact Iff.rfl
end
end Nv

/-! _law_rings: what is found, what waits. -/
namespace Nv
open PySem L2
/-! ### rows of things at addresses -/
def Tups {α : Type} (f : α → Hp → Addr → Prop) (H : Hp) (as : List Addr) (xs : List α) : Prop := as.length = xs.length ∧ ∀ (i : Nat) (x : α), xs[i]? = some x → ∃ c, as[i]? = some c ∧ f x H c
section
variable {α : Type} {f : α → Hp → Addr → Prop} {H H' : Hp} {as : List Addr} {xs : List α}
theorem Tups.nil : Tups f H [] [] := ⟨rfl, fun i d h => by simp at h⟩
theorem Tups.keep (h : Tups f H as xs) (k : ∀ x c, f x H c → f x H' c) : Tups f H' as xs := ⟨h.1, fun i d hd => let ⟨c, h1, h2⟩ := h.2 i d hd; ⟨c, h1, k _ _ h2⟩⟩
theorem Tups.snoc {c : Addr} {x : α} (h : Tups f H as xs) (hc : f x H c) : Tups f H (as ++ [c]) (xs ++ [x]) := by
  refine ⟨by rw [List.length_append, List.length_append, h.1]; rfl, fun i e he => ?_⟩
  rcases Nat.lt_or_ge i xs.length with hi | hi
  · rw [List.getElem?_append_left hi] at he
    obtain ⟨c', h1, h2⟩ := h.2 i e he
    exact ⟨c', by rw [List.getElem?_append_left (by rw [h.1]; exact hi)]; exact h1, h2⟩
  · rw [List.getElem?_append_right hi] at he
    have hz : i - xs.length = 0 := by
      cases z : i - xs.length with
      | zero => rfl
      | succ m => rw [z] at he; simp at he
    rw [hz] at he
    cases he
    exact ⟨c, by rw [List.getElem?_append_right (by rw [h.1]; exact hi), h.1, hz]; rfl, hc⟩
theorem Tups.unsnoc {c : Addr} {x : α} (h : Tups f H (as ++ [c]) (xs ++ [x])) : Tups f H as xs ∧ f x H c := by
  have hl : as.length = xs.length := by have := h.1; rw [List.length_append, List.length_append] at this; exact Nat.succ.inj this
  refine ⟨⟨hl, fun i e he => ?_⟩, ?_⟩
  · have hi := (List.getElem?_eq_some_iff.mp he).1
    obtain ⟨c', h1, h2⟩ := h.2 i e (by rw [List.getElem?_append_left hi]; exact he)
    rw [List.getElem?_append_left (by omega)] at h1
    exact ⟨c', h1, h2⟩
  · obtain ⟨c', h1, h2⟩ := h.2 xs.length x (by rw [List.getElem?_append_right (Nat.le_refl _), Nat.sub_self]; rfl)
    rw [← hl, List.getElem?_append_right (Nat.le_refl _), Nat.sub_self] at h1
    cases h1
    exact h2
end
theorem catA_any {K : PySem.W.Frag} {H : Hp} {a b : Addr} {xs ys : List V} {Q : VK} (ha : H a = some (.tup xs)) (hb : H b = some (.tup ys)) (hy : ys ≠ []) (hl : xs.length + ys.length ≤ 1000)
    (h : ∀ (p : Addr) (H' : Hp), Same H H' → H' p = some (.tup (xs ++ ys)) → Q (.ref p) H') : rCatA K (.ref a) (.ref b) H Q := by
  refine ⟨a, b, xs, ys, rfl, rfl, SqT.of ha, SqT.of hb, Nat.le_of_lt (small1000 hl), fun e => ?_, fun _ e => absurd e hy, fun _ _ p np => ?_⟩
  · subst e
    exact h b H (Same.refl _) hb
  · exact h p _ (same_new (Same.refl _) np) upd_same
/-! ### the rings of a standing, and the ways that lead toward them -/
/-- the standings by which a way has come, that at its end the last -/
def seen (es : List Ev) (r : List Nat) (v : Int) : List Int := starts es r ++ [v]
/-- a ring that begins at its least standing u, no standing twice -/
structure Target (es : List Ev) (u : Int) (c : List Nat) : Prop where
  ne : c ≠ []
  way : Way es u c u
  nd : (starts es c).Nodup
  le : ∀ x ∈ starts es c, u ≤ x
/-- a way that waits -/
structure WayOk (es : List Ev) (kk : List Int) (u : Int) (r : List Nat) (v : Int) : Prop where
  way : Way es u r v
  nd : (seen es r v).Nodup
  inK : ∀ x ∈ seen es r v, x ∈ kk
theorem starts_head {es : List Ev} {u v : Int} {r : List Nat} (w : Way es u r v) (h : r ≠ []) : u ∈ starts es r := by
  cases w with
  | nil _ => exact absurd rfl h
  | cons he _ => rw [starts_cons he]; exact List.mem_cons_self
theorem head_seen {es : List Ev} {u v : Int} {r : List Nat} (w : Way es u r v) : u ∈ seen es r v := by
  unfold seen
  by_cases h : r = []
  · subst h
    rw [w.nil_eq]
    exact List.mem_append_right _ (by simp)
  · exact List.mem_append_left _ (starts_head w h)
theorem seen_snoc {es : List Ev} {r : List Nat} {i : Nat} {e : Ev} (he : es[i]? = some e) (v : Int) : seen es (r ++ [i]) v = seen es r e.b ++ [v] := by
  unfold seen
  rw [starts_app, starts_cons he]
  rfl
/-- how a ring goes on behind a way -/
theorem target_next {es : List Ev} {S : Int → Prop} (C : Class es S) {u : Int} (hu : S u) {r t : List Nat} {i : Nat} {e : Ev} (T : Target es u (r ++ i :: t)) (he : es[i]? = some e) :
    (t = [] → e.a = u) ∧ (t ≠ [] → e.a ≠ u ∧ u < e.a ∧ S e.a ∧ e.a ∉ seen es r e.b) := by
  obtain ⟨x, w1, w2⟩ := way_split r u T.way
  obtain ⟨e', g, eb, w3⟩ := w2.uncons
  rw [he] at g
  cases g
  subst eb
  refine ⟨?_, fun z => ?_⟩
  · rintro rfl
    exact w3.nil_eq
  · cases t with
    | nil => exact absurd rfl z
    | cons j t' =>
      obtain ⟨e2, hj, eb2, w4⟩ := w3.uncons
      have es' : starts es (r ++ i :: j :: t') = seen es r e.b ++ (e.a :: starts es t') := by
        unfold seen
        rw [starts_app, starts_cons he, starts_cons hj, eb2]
        simp
      have hn := T.nd
      rw [es'] at hn
      have hout : e.a ∉ seen es r e.b := fun m => (List.nodup_append.mp hn).2.2 _ m _ List.mem_cons_self rfl
      have hne : e.a ≠ u := fun q => hout (q ▸ head_seen w1)
      have hle := T.le e.a (by rw [es']; exact List.mem_append_right _ List.mem_cons_self)
      exact ⟨hne, by omega, C.full u e.a hu (Reach.step ⟨_, w1⟩ he) ⟨_, w3⟩, hout⟩
end Nv

/-! _law_rings. -/
namespace Nv
open PySem L2
abbrev sRings : Stmt := top 39
theorem last_any {α : Type} {l : List α} (h : l ≠ []) : ∃ m x, l = m ++ [x] := ⟨l.dropLast, l.getLast h, (List.dropLast_concat_getLast h).symm⟩
theorem way_fun {es : List Ev} : ∀ {r : List Nat} {u v v' : Int}, Way es u r v → Way es u r v' → v = v'
  | [], u, v, v', h, g => h.nil_eq.symm.trans g.nil_eq
  | i :: r, u, v, v', h, g => by
    obtain ⟨e, he, _, w⟩ := h.uncons
    obtain ⟨e', he', _, w'⟩ := g.uncons
    rw [he] at he'
    cases he'
    exact way_fun w w'
def ringAt (r : List Nat) (H : Hp) (c : Addr) : Prop := H c = some (.tup (vN r))
def itAt (es : List Ev) (x : List Nat × Int) (H : Hp) (c : Addr) : Prop := ∃ cr cs, H c = some (.tup [.ref cr, .int x.2, .ref cs]) ∧ H cr = some (.tup (vN x.1)) ∧ H cs = some (.tup (vI (seen es x.1 x.2)))
/-- tuples stay -/
def TupsStay (H H' : Hp) : Prop := ∀ c xs, H c = some (.tup xs) → H' c = some (.tup xs)
theorem Same.tups {H H' : Hp} (s : Same H H') : TupsStay H H' := fun c xs e => s c _ e
theorem TupsStay.trans {H H1 H2 : Hp} (a : TupsStay H H1) (b : TupsStay H1 H2) : TupsStay H H2 := fun c xs e => b c xs (a c xs e)
theorem tups_upd {H : Hp} {l : Addr} {xs ys : List V} (h : H l = some (.lst xs)) : TupsStay H (upd H l (.lst ys)) := fun c zs e => by rw [upd_ne (ne_of e h (by intro q; cases q))]; exact e
theorem ringAt.stay {H H' : Hp} {as : List Addr} {rs : List (List Nat)} (h : Tups ringAt H as rs) (s : TupsStay H H') : Tups ringAt H' as rs := h.keep fun x c e => s c _ e
theorem itAt.stay {es : List Ev} {H H' : Hp} {as : List Addr} {its : List (List Nat × Int)} (h : Tups (itAt es) H as its) (s : TupsStay H H') : Tups (itAt es) H' as its :=
  h.keep fun x c ⟨cr, cs, a, b, d⟩ => ⟨cr, cs, s _ _ a, s _ _ b, s _ _ d⟩
def wt (x : List Nat × Int) : Nat := 7 ^ (4 - x.1.length)
def Wt (its : List (List Nat × Int)) : Nat := (its.map wt).sum
theorem Wt_snoc {its : List (List Nat × Int)} {x : List Nat × Int} : Wt (its ++ [x]) = Wt its + wt x := by unfold Wt; rw [List.map_append, List.sum_append]; simp
theorem Wt_len : ∀ its : List (List Nat × Int), its.length ≤ Wt its
  | [] => Nat.zero_le _
  | a :: t => by
    have ih := Wt_len t
    have hp : 1 ≤ wt a := Nat.pow_pos (by decide)
    show t.length + 1 ≤ wt a + Wt t
    omega
/-- what has been found is sound -/
def Snd (es : List Ev) (kk : List Int) (rs : List (List Nat)) : Prop := ∀ r ∈ rs, r ≠ [] ∧ r.length ≤ 4 ∧ ∃ u, u ∈ kk ∧ Way es u r u
theorem Snd.snoc {es : List Ev} {kk : List Int} {rs : List (List Nat)} {r : List Nat} {u : Int} (h : Snd es kk rs) (h0 : r ≠ []) (h4 : r.length ≤ 4) (hu : u ∈ kk) (w : Way es u r u) : Snd es kk (rs ++ [r]) := fun x hx => by
  rcases List.mem_append.1 hx with hx | hx
  · exact h x hx
  · rw [List.mem_singleton.mp hx]; exact ⟨h0, h4, u, hu, w⟩
theorem WayOk.len {es : List Ev} {kk : List Int} {u v n : Int} {r : List Nat} (h : WayOk es kk u r v) (hk : ∀ x ∈ kk, 0 ≤ x ∧ x < n) (n4 : n ≤ 4) : r.length ≤ 3 := by
  have := nodup_ints_len h.nd fun x hx => hk x (h.inK x hx)
  unfold seen at this
  rw [List.length_append, starts_len] at this
  simp at this
  omega
theorem seen_len {es : List Ev} {r : List Nat} {v : Int} : (seen es r v).length = r.length + 1 := by unfold seen; rw [List.length_append, starts_len]; rfl
def spRings : Sp := fun vs H Q _ => ∃ (q kl : Addr) (n : Int) (es : List Ev) (kk : List Int), vs = [.ref q, .ref kl] ∧ PartsAt H q n es ∧ OkParts n es ∧ H kl = some (.lst (vI kk)) ∧ kk.Nodup ∧ (∀ x ∈ kk, 0 ≤ x ∧ x < n) ∧ Class es (fun v => v ∈ kk) ∧
  ∀ (H' : Hp) (l : Addr) (as : List Addr) (rs : List (List Nat)), Same H H' → H l = none → H' l = some (.lst (as.map V.ref)) → Tups ringAt H' as rs → RingsOk es (fun v => v ∈ kk) rs → (∀ r ∈ rs, r.length ≤ 4) → rs.length ≤ 10000 → Q (.ref l) H'
section
variable {P : Program} {w : World} {K : PySem.W.Frag} {mg : Str → Option Value} {base : Heap} {C : Addr}
theorem scRings : FnScope ["_law_parts_here", "_law_knot_here", "_law_found", "_law_start", "_law_ways", "_law_way", "_law_standing", "_law_seen", "_law_number", "_law_after"] ["_law_parts_here", "_law_knot_here"] (defScope sRings) := ⟨rfl, rfl, rfl, by decide +kernel, rfl, by decide +kernel, by decide +kernel⟩
theorem trat0 {a b c : V} : atI [a, b, c] 0 = some a := at_of (j := 0) rfl rfl
theorem small_line {m : Nat} (h : m ≤ 20000) : m < sizeLine := by rw [sizeLine_eq]; omega
theorem c_rings (T : Txt mg) (cO : CalOut P w K mg base) (D : DefOf K mg "_law_rings" sRings ["_law_parts_here", "_law_knot_here"]) : Cal P w K mg base 2 "_law_rings" ["_law_parts_here", "_law_knot_here"] spRings := by
  refine D.cal fun f fd F => F.ok scRings (fun vs H Q E h => ?_) (fun cdv A outer s H vs Q E hr h => ?_)
  · obtain ⟨q, kl, n, es, kk, rfl, _⟩ := h
    rfl
  · obtain ⟨q, kl, n, es, kk, rfl, hP, ok, hkl, ndk, hbd, CL, k⟩ := h
    obtain ⟨le, hq, as0, a1, a2, a3⟩ := id hP
    have n4 := ok.n4
    have lkk : kk.length ≤ n.toNat := nodup_ints_len ndk hbd
    refine ⟨_, pss_cons (ps_set (i := 2) scRings.nd rfl (.inl rfl) (pe_lst pa_nil))
      (pss_cons (ps_for PassesOwn.never rfl (pi_list (pv 1)) (pg_name (i := 3) scRings.nd rfl (.inl rfl))
        (pss_cons (ps_set (i := 4) scRings.nd rfl (.inl rfl) (pe_lst (pa_cons (pe_tup (pa_cons (pe_tup pa_nil) (pa_cons (pv 3) (pa_cons (pe_tup (pa_cons (pv 3) pa_nil)) pa_nil)))) pa_nil)))
        (pss_one (ps_while PassesOwn.never (pt_cmpR op_gt (pe_callB call_len_seq (by rfl) T.len PySem.boot_len (pa_cons (pv 4) pa_nil)) pe_int (nomark _))
          (pss_cons (ps_asg (pe_bm0 PySem.F.plainAttrs_list PySem.F.slot_list_pop PySem.F.type_list_pop mt_pop (pv 4)) (pg_tup rfl (pgs_cons (pg_name (i := 5) scRings.nd rfl (.inl rfl)) (pgs_cons (pg_name (i := 6) scRings.nd rfl (.inl rfl)) (pgs_cons (pg_name (i := 7) scRings.nd rfl (.inl rfl)) pgs_nil)))))
          (pss_one (ps_for PassesOwn.never rfl (pi_list (pcal cO hr (pa_cons (pv 0) (pa_cons (pv 6) pa_nil)))) (pg_name (i := 8) scRings.nd rfl (.inl rfl))
            (pss_cons (ps_set (i := 9) scRings.nd rfl (.inl rfl) (pe_ix ix_tup (pe_ix ix_tup (pix 0) (pv 8) (fun _ _ => rfl)) pe_int (fun _ _ => rfl)))
            (pss_one (ps_if (pt_cmpR op_eq (pv 9) (pv 3) (nomark _))
              (pss_one (ps_expr (pe_bm PySem.F.plainAttrs_list PySem.F.slot_list_append PySem.F.type_list_append mt_append (pv 2) (pa_cons (pe_op op_catA (pv 5) (pe_tup (pa_cons (pv 8) pa_nil))) pa_nil))))
              (pss_one (ps_if (PW.pt (pw_and (pt_cmpR op_in_seq (pv 9) (pv 1) (by rfl)) (pw_and (pt_cmpR op_gt (pv 9) (pv 3) (nomark _)) (pw_and1 (pt_cmpR op_notIn_seq (pv 9) (pv 7) (by rfl))))))
                (pss_one (ps_expr (pe_bm PySem.F.plainAttrs_list PySem.F.slot_list_append PySem.F.type_list_append mt_append (pv 4) (pa_cons (pe_tup (pa_cons (pe_op op_catA (pv 5) (pe_tup (pa_cons (pv 8) pa_nil))) (pa_cons (pv 9) (pa_cons (pe_op op_catA (pv 7) (pe_tup (pa_cons (pv 9) pa_nil))) pa_nil)))) pa_nil))))
                pss_nil))))))))))))
      (pss_one (ps_ret (pv 2)))), ?_⟩
    refine ⟨Nat.zero_le _, fun fl nfl => ?_⟩
    have sm0 := same_new (o := .lst []) (Same.refl H) nfl
    refine ⟨_, rfl, kl, rfl, ⟨_, SqL.of (sm0 _ _ hkl)⟩, for_list (K := K) (a := kl) (xs := vI kk) (fun i σ H1 => ∃ (as : List Addr) (rs : List (List Nat)) (v3 v4 v5 v6 v7 v8 v9 : Option V), σ = [some (.ref q), some (.ref kl), some (.ref fl), v3, v4, v5, v6, v7, v8, v9] ∧ Same H H1 ∧
        H1 fl = some (.lst (as.map V.ref)) ∧ Tups ringAt H1 as rs ∧ Snd es kk rs ∧ (∀ u ∈ kk.take i, ∀ c, Target es u c → c ∈ rs) ∧ rs.length ≤ 2401 * i)
      ⟨[], [], none, none, none, none, none, none, none, rfl, sm0, upd_same, .nil, fun r hr' => (by cases hr'), by simp, Nat.zero_le _⟩ (fun i σ H1 _ ⟨_, _, _, _, _, _, _, _, _, _, g, _⟩ => SqL.of (g _ _ hkl)) ?_ ?_⟩
    · rintro i y σ H1 hi ⟨as, rs, v3, v4, v5, v6, v7, v8, v9, rfl, sm1, hf1, tr1, sd1, al1, ln1⟩
      obtain ⟨u, hu, rfl⟩ := at_vI hi
      have huk := List.mem_of_getElem? hu
      have hil := (List.getElem?_eq_some_iff.mp hu).1
      -- ways = [((), start, (start,))]
      refine ⟨Nat.zero_le _, fun e0 ne0 => ?_⟩
      have smA := same_new (o := .tup []) (Same.refl H1) ne0
      refine ⟨_, rfl, _, rfl, (by show 1 ≤ sizeLine; decide), fun e1 ne1 => ⟨(by show 3 ≤ sizeLine; decide), fun e2 ne2 => ⟨(by show 1 ≤ sizeLine; decide), fun wl nwl => ?_⟩⟩⟩
      have smB := same_new (o := .tup [.int u]) smA ne1
      have smC := same_new (o := .tup [.ref e0, .int u, .ref e1]) smB ne2
      have he0 : (upd (upd (upd H1 e0 (.tup [])) e1 (.tup [.int u])) e2 (.tup [.ref e0, .int u, .ref e1])) e0 = some (.tup (vN [])) := by
        have h1 : (upd (upd H1 e0 (.tup [])) e1 (.tup [.int u])) e0 = some (.tup []) := by rw [upd_ne (ne_of_none upd_same ne1)]; exact upd_same
        rw [upd_ne (ne_of_none h1 ne2)]
        exact h1
      have he1 : (upd (upd (upd H1 e0 (.tup [])) e1 (.tup [.int u])) e2 (.tup [.ref e0, .int u, .ref e1])) e1 = some (.tup (vI [u])) := by
        have h1 : (upd (upd H1 e0 (.tup [])) e1 (.tup [.int u])) e1 = some (.tup [.int u]) := upd_same
        rw [upd_ne (ne_of_none h1 ne2)]
        exact h1
      have he2 : (upd (upd (upd H1 e0 (.tup [])) e1 (.tup [.int u])) e2 (.tup [.ref e0, .int u, .ref e1])) e2 = some (.tup [.ref e0, .int u, .ref e1]) := upd_same
      generalize upd (upd (upd H1 e0 (.tup [])) e1 (.tup [.int u])) e2 (.tup [.ref e0, .int u, .ref e1]) = H1' at smC he0 he1 he2 nwl ⊢
      have smD : Same H H1' := sm1.trans smC
      have nwl0 : H wl = none := smD.free nwl
      have fwl : fl ≠ wl := ne_of_none (smC _ _ hf1) nwl
      have smE := same_new (o := .lst [.ref e2]) (Same.refl H1') nwl
      have it0 : Tups (itAt es) (upd H1' wl (.lst [.ref e2])) [e2] [([], u)] := Tups.snoc (as := []) (xs := []) Tups.nil ⟨e0, e1, smE _ _ he2, smE _ _ he0, smE _ _ he1⟩
      refine ⟨fun m σ H2 => ∃ (as bs : List Addr) (rs : List (List Nat)) (its : List (List Nat × Int)) (v5 v6 v7 v8 v9 : Option V), σ = [some (.ref q), some (.ref kl), some (.ref fl), some (.int u), some (.ref wl), v5, v6, v7, v8, v9] ∧ Same H H2 ∧
          H2 fl = some (.lst (as.map V.ref)) ∧ H2 wl = some (.lst (bs.map V.ref)) ∧ Tups ringAt H2 as rs ∧ Tups (itAt es) H2 bs its ∧ (∀ x ∈ its, WayOk es kk u x.1 x.2) ∧ Snd es kk rs ∧ (∀ u' ∈ kk.take i, ∀ c, Target es u' c → c ∈ rs) ∧
          (∀ c, Target es u c → c ∈ rs ∨ ∃ x ∈ its, ∃ t, t ≠ [] ∧ c = x.1 ++ t) ∧ rs.length + Wt its ≤ 2401 * (i + 1) ∧ Wt its = m,
        ⟨_, as, [e2], rs, [([], u)], v5, v6, v7, v8, v9, rfl, smD.trans smE, smE _ _ (smC _ _ hf1), upd_same, ringAt.stay tr1 (Same.tups (smC.trans smE)), it0, fun x hx => ?_, sd1, al1, fun c hc => .inr ⟨([], u), by simp, c, hc.ne, rfl⟩, ?_, rfl⟩, ?_⟩
      · rw [List.mem_singleton.mp hx]
        refine ⟨.nil u, by simp [seen, starts], fun y hy => ?_⟩
        have : y = u := by simpa [seen, starts] using hy
        rw [this]; exact huk
      · show rs.length + (7 ^ 4 + 0) ≤ _
        omega
      rintro m0 σ H2 ⟨as, bs, rs, its, v5, v6, v7, v8, v9, rfl, sm2, hf2, hw2, tr2, ti2, wo2, sd2, al2, cv2, po2, hm0⟩
      refine ⟨_, rfl, wl, _, rfl, .inl (SqL.of hw2), _, _, rfl, rfl, _, rfl, ite2 (fun hgt => ?_) (fun hgt => ?_)⟩
      · refine ⟨_, fun σ' H' z => z, ?_⟩
        have hbn : bs ≠ [] := fun z => by subst z; exact absurd (of_decide_eq_true hgt) (by decide)
        obtain ⟨bs', b, rfl⟩ := last_any hbn
        have hin : its ≠ [] := fun z => by subst z; have := ti2.1; simp at this
        obtain ⟨its', x, rfl⟩ := last_any hin
        obtain ⟨r, v⟩ := x
        obtain ⟨ti', cr, cs, hb2, hcr2, hcs2⟩ := ti2.unsnoc
        have wx : WayOk es kk u r v := wo2 (r, v) (by simp)
        have lr := wx.len hbd n4
        refine ⟨_, rfl, .inl ⟨rfl, _, SqL.of hw2⟩, wl, _, V.ref b, rfl, rfl, hw2, (by simp), ?_⟩
        have hdl : ((bs' ++ [b]).map V.ref).dropLast = bs'.map V.ref := by simp
        rw [hdl]
        have st3 := tups_upd (ys := bs'.map V.ref) hw2
        have hw3 : (upd H2 wl (.lst (bs'.map V.ref))) wl = some (.lst (bs'.map V.ref)) := upd_same
        have hf3 : (upd H2 wl (.lst (bs'.map V.ref))) fl = some (.lst (as.map V.ref)) := by rw [upd_ne fwl]; exact hf2
        have sm3 : Same H (upd H2 wl (.lst (bs'.map V.ref))) := same_upd sm2 nwl0
        generalize upd H2 wl (.lst (bs'.map V.ref)) = H3 at st3 hw3 hf3 sm3
        refine ⟨b, _, rfl, SqT.of (st3 _ _ hb2), rfl, _, _, rfl, _, _, rfl, _, _, rfl, rfl, ?_⟩
        rw [Wt_snoc] at hm0 po2
        have hwt : wt (r, v) = 7 * 7 ^ (3 - r.length) := by
          show 7 ^ (4 - r.length) = _
          rw [show 4 - r.length = (3 - r.length) + 1 by omega, Nat.pow_succ, Nat.mul_comm]
        rw [hwt] at hm0 po2
        have hc1 : 1 ≤ 7 ^ (3 - r.length) := Nat.pow_pos (by decide)
        generalize hcc : 7 ^ (3 - r.length) = cc at hm0 po2 hc1
        refine ⟨_, rfl, _, rfl, q, n, v, es, rfl, hP.same sm3, ok.len, fun H4 ol sm4 nol hol => ⟨ol, rfl, ⟨_, SqL.of hol⟩, for_list (K := K) (a := ol) (xs := vN (outs es v))
          (fun j σ H5 => ∃ (as bs : List Addr) (rs : List (List Nat)) (its : List (List Nat × Int)) (v8 v9 : Option V), σ = [some (.ref q), some (.ref kl), some (.ref fl), some (.int u), some (.ref wl), some (.ref cr), some (.int v), some (.ref cs), v8, v9] ∧ Same H H5 ∧
            H5 fl = some (.lst (as.map V.ref)) ∧ H5 wl = some (.lst (bs.map V.ref)) ∧ H5 ol = some (.lst (vN (outs es v))) ∧ H5 cr = some (.tup (vN r)) ∧ H5 cs = some (.tup (vI (seen es r v))) ∧ Tups ringAt H5 as rs ∧ Tups (itAt es) H5 bs its ∧ (∀ x ∈ its, WayOk es kk u x.1 x.2) ∧ Snd es kk rs ∧
            (∀ u' ∈ kk.take i, ∀ c, Target es u' c → c ∈ rs) ∧ (∀ c, Target es u c → c ∈ rs ∨ (∃ x ∈ its, ∃ t, t ≠ [] ∧ c = x.1 ++ t) ∨ ∃ i' t, c = r ++ i' :: t ∧ i' ∈ (outs es v).drop j) ∧ rs.length + Wt its + 7 * cc ≤ 2401 * (i + 1) + cc * j ∧ Wt its + 7 * cc ≤ m0 + cc * j)
          ⟨as, bs', rs, its', v8, v9, rfl, sm3.trans sm4, sm4 _ _ hf3, sm4 _ _ hw3, hol, sm4 _ _ (st3 _ _ hcr2), sm4 _ _ (st3 _ _ hcs2), ringAt.stay tr2 (st3.trans (Same.tups sm4)), itAt.stay ti' (st3.trans (Same.tups sm4)), fun x hx => wo2 x (by simp [hx]), sd2, al2, fun c hc => ?_, by omega, by omega⟩
          (fun j σ H5 _ ⟨_, _, _, _, _, _, _, _, _, _, g, _⟩ => SqL.of g) ?_ ?_⟩⟩
        · rcases cv2 c hc with z | ⟨x, hx, t, ht, e⟩
          · exact .inl z
          · rcases List.mem_append.1 hx with hx | hx
            · exact .inr (.inl ⟨x, hx, t, ht, e⟩)
            · have ex := List.mem_singleton.mp hx
              subst ex
              cases t with
              | nil => exact absurd rfl ht
              | cons i' t' =>
                refine .inr (.inr ⟨i', t', e, ?_⟩)
                have wc := hc.way
                rw [e] at wc
                obtain ⟨z, w1, w2⟩ := way_split r u wc
                obtain ⟨e', he', eb, _⟩ := w2.uncons
                rw [List.drop_zero]
                exact mem_idx.mpr ⟨e', he', decide_eq_true (eb.trans (way_fun w1 wx.way))⟩
        · rintro j y σ H5 hj ⟨as, bs, rs, its, v8, v9, rfl, sm5, hf5, hw5, ho5, hcr5, hcs5, tr5, ti5, wo5, sd5, al5, cv5, po5, pm5⟩
          obtain ⟨k0, hk0, rfl⟩ := at_vN hj
          obtain ⟨e, he, hb⟩ := mem_idx.mp (List.mem_of_getElem? hk0)
          have hbv : e.b = v := of_decide_eq_true hb
          obtain ⟨xa, hxa, hxo⟩ := a3 k0 e he
          have hjl := (List.getElem?_eq_some_iff.mp hk0).1
          have hjd : (outs es v).drop j = k0 :: (outs es v).drop (j + 1) := by
            rw [List.drop_eq_getElem_cons hjl, (List.getElem?_eq_some_iff.mp hk0).2]
          rw [hjd] at cv5
          have l6 : (outs es v).length ≤ 6 := Nat.le_trans idx_len ok.len
          have hcj : cc * (j + 1) = cc * j + cc := Nat.mul_succ cc j
          have hc5 : cc * j ≤ cc * 5 := Nat.mul_le_mul_left cc (by omega)
          have small : rs.length ≤ 9700 := by have : 2401 * (i + 1) ≤ 2401 * 4 := Nat.mul_le_mul_left 2401 (by omega); omega
          have onl : ∀ {X : Hp}, X ol = some (.lst (vN (outs es v))) → ol ≠ wl ∧ ol ≠ fl := fun _ => ⟨fun z => (by rw [z, hw3] at nol; cases nol), fun z => (by rw [z, hf3] at nol; cases nol)⟩
          have wayE : Way es u (r ++ [k0]) e.a := wx.way.append (by rw [← hbv]; exact Way.one he)
          have huS : u ∈ kk := huk
          have tn := fun {t : List Nat} (hT : Target es u (r ++ k0 :: t)) => target_next CL huS hT he
          have hse : seen es r e.b = seen es r v := by rw [hbv]
          -- after
          refine ⟨_, rfl, q, _, _, _, rfl, rfl, SqT.of (sm5 _ _ hq), pat1, _, rfl, le, _, _, _, rfl, rfl, SqT.of (sm5 _ _ a1), at_of (j := k0) rfl (ref_at hxa), xa, _, _, _, rfl, rfl, SqT.of (sm5 _ _ hxo), at1, ?_⟩
          refine ⟨_, rfl, _, rfl, rfl, _, rfl, ?_⟩
          show if decide (V.int e.a = V.int u) = true then _ else _
          rw [dec_int]
          by_cases hau : e.a = u
          · -- a ring
            rw [show (e.a == u) = true from beq_iff_eq.mpr hau]
            refine iteT ⟨_, rfl, .inl ⟨rfl, _, SqL.of hf5⟩, _, rfl, _, rfl, (by show 1 ≤ sizeLine; decide), fun t1 nt1 => ?_⟩
            have s1 := same_new (o := .tup [.int (k0 : Int)]) (Same.refl H5) nt1
            refine catA_any (ys := vN [k0]) (s1 _ _ hcr5) upd_same (by simp [vN]) (by rw [vN_len, vN_len]; simp; omega) fun p H6 s2 hp => ?_
            have s6 : Same H5 H6 := s1.trans s2
            rw [← vN_app] at hp
            refine ⟨fl, _, _, rfl, rfl, s6 _ _ hf5, small_line (by rw [List.length_map, tr5.1]; omega), ?_⟩
            have hf6 := s6 _ _ hf5
            have st7 := (Same.tups s6).trans (tups_upd (ys := as.map V.ref ++ [V.ref p]) hf6)
            have hol := onl ho5
            refine ⟨as ++ [p], bs, rs ++ [r ++ [k0]], its, _, _, rfl, same_upd (sm5.trans s6) nfl, by rw [List.map_append]; exact upd_same, by rw [upd_ne fwl.symm]; exact s6 _ _ hw5, by rw [upd_ne hol.2]; exact s6 _ _ ho5, st7 _ _ hcr5, st7 _ _ hcs5,
              Tups.snoc (ringAt.stay tr5 st7) (tups_upd (ys := as.map V.ref ++ [V.ref p]) hf6 _ _ hp), itAt.stay ti5 st7, wo5, sd5.snoc (by simp) (by rw [List.length_append]; simp; omega) huk (by rw [← hau] at wayE ⊢; exact wayE), fun u' hu' c hc => List.mem_append_left _ (al5 u' hu' c hc), fun c hc => ?_, ?_, by omega⟩
            · rcases cv5 c hc with z | z | ⟨i', t, z, hm⟩
              · exact .inl (List.mem_append_left _ z)
              · exact .inr (.inl z)
              · rcases List.mem_cons.1 hm with hm | hm
                · subst hm
                  subst z
                  cases t with
                  | nil => exact .inl (List.mem_append_right _ (by simp))
                  | cons a t' => exact absurd hau ((tn hc).2 (by simp)).1
                · exact .inr (.inr ⟨i', t, z, hm⟩)
            · simp only [List.length_append, List.length_singleton]; omega
          · rw [show (e.a == u) = false from beq_eq_false_iff_ne.mpr hau]
            refine iteF ⟨_, rfl, _, rfl, kl, _, rfl, .inl (SqL.of (sm5 _ _ hkl)), rfl, flat_vI kk, _, rfl, ?_⟩
            show if inV (.int e.a) (vI kk) = true then _ else _
            rw [inV_int]
            -- nothing more is covered by this event, if it isn't taken
            have skip : ¬ (e.a ∈ kk ∧ u < e.a ∧ e.a ∉ seen es r v) → ∀ c, Target es u c → c ∈ rs ∨ (∃ x ∈ its, ∃ t, t ≠ [] ∧ c = x.1 ++ t) ∨ ∃ i' t, c = r ++ i' :: t ∧ i' ∈ (outs es v).drop (j + 1) := fun hn c hc => by
              rcases cv5 c hc with z | z | ⟨i', t, z, hm⟩
              · exact .inl z
              · exact .inr (.inl z)
              · rcases List.mem_cons.1 hm with hm | hm
                · subst hm
                  subst z
                  cases t with
                  | nil => exact absurd ((tn hc).1 rfl) hau
                  | cons a t' =>
                    obtain ⟨_, g1, g2, g3⟩ := (tn hc).2 (by simp)
                    rw [hse] at g3
                    exact absurd ⟨g2, g1, g3⟩ hn
                · exact .inr (.inr ⟨i', t, z, hm⟩)
            by_cases hk : e.a ∈ kk
            · rw [decide_eq_true hk]
              refine iteT ⟨_, rfl, _, rfl, _, _, rfl, rfl, _, rfl, ?_⟩
              by_cases hgt : u < e.a
              · rw [decide_eq_true hgt]
                refine iteT ⟨_, rfl, _, rfl, cs, _, rfl, .inr (SqT.of hcs5), rfl, flat_vI _, _, rfl, ?_⟩
                show if (!inV (.int e.a) (vI (seen es r v))) = true then _ else _
                rw [inV_int]
                by_cases hs : e.a ∈ seen es r v
                · rw [decide_eq_true hs]
                  exact iteF ⟨as, bs, rs, its, _, _, rfl, sm5, hf5, hw5, ho5, hcr5, hcs5, tr5, ti5, wo5, sd5, al5, skip (fun z => z.2.2 hs), by omega, by omega⟩
                · rw [decide_eq_false hs]
                  -- one more way
                  refine iteT ⟨_, rfl, .inl ⟨rfl, _, SqL.of hw5⟩, _, rfl, _, rfl, (by show 1 ≤ sizeLine; decide), fun t1 nt1 => ?_⟩
                  have s1 := same_new (o := .tup [.int (k0 : Int)]) (Same.refl H5) nt1
                  refine catA_any (ys := vN [k0]) (s1 _ _ hcr5) upd_same (by simp [vN]) (by rw [vN_len, vN_len]; simp; omega) fun p H6 s2 hp => ?_
                  have s6 : Same H5 H6 := s1.trans s2
                  rw [← vN_app] at hp
                  refine ⟨_, rfl, _, rfl, _, rfl, (by show 1 ≤ sizeLine; decide), fun t2 nt2 => ?_⟩
                  have s7 := same_new (o := .tup [.int e.a]) (Same.refl H6) nt2
                  refine catA_any (ys := vI [e.a]) (s7 _ _ (s6 _ _ hcs5)) upd_same (by simp [vI]) (by rw [vI_len, vI_len, seen_len]; simp; omega) fun p2 H8 s8 hp2 => ?_
                  have s9 : Same H6 H8 := s7.trans s8
                  rw [← vI_app] at hp2
                  refine ⟨(by show 3 ≤ sizeLine; decide), fun t3 nt3 => ?_⟩
                  have s10 := same_new (o := .tup [.ref p, .int e.a, .ref p2]) (s6.trans s9) nt3
                  have hw10 := s10 _ _ hw5
                  have stW := tups_upd (ys := bs.map V.ref ++ [V.ref t3]) hw10
                  have nt8 : ∀ c xs, H8 c = some (.tup xs) → (upd H8 t3 (.tup [.ref p, .int e.a, .ref p2])) c = some (.tup xs) := fun c xs z => by rw [upd_ne (ne_of_none z nt3)]; exact z
                  have hseen : seen es (r ++ [k0]) e.a = seen es r v ++ [e.a] := by rw [seen_snoc he, hse]
                  have hitem : itAt es (r ++ [k0], e.a) (upd (upd H8 t3 (.tup [.ref p, .int e.a, .ref p2])) wl (.lst (bs.map V.ref ++ [V.ref t3]))) t3 := by
                    refine ⟨p, p2, stW _ _ upd_same, stW _ _ (nt8 _ _ (s9 _ _ hp)), stW _ _ (nt8 _ _ ?_)⟩
                    show _ = some (HO.tup (vI (seen es (r ++ [k0]) e.a)))
                    rw [hseen]
                    exact hp2
                  have hol := onl ho5
                  have stA := (Same.tups s10).trans stW
                  have hwo : WayOk es kk u (r ++ [k0]) e.a := ⟨wayE, by rw [hseen]; exact nd_snoc wx.nd hs, fun y hy => by
                    rw [hseen] at hy
                    rcases List.mem_append.1 hy with hy | hy
                    · exact wx.inK y hy
                    · rw [List.mem_singleton.mp hy]; exact hk⟩
                  have lr2 := hwo.len hbd n4
                  rw [List.length_append, List.length_singleton] at lr2
                  have hwt2 : wt (r ++ [k0], e.a) = cc := by
                    show 7 ^ (4 - (r ++ [k0]).length) = cc
                    rw [List.length_append, List.length_singleton, ← hcc]
                    rw [show 4 - (r.length + 1) = 3 - r.length by omega]
                  have lbs : bs.length ≤ 9700 := by
                    have h1 := ti5.1
                    have h2 := Wt_len its
                    have : 2401 * (i + 1) ≤ 2401 * 4 := Nat.mul_le_mul_left 2401 (by omega)
                    omega
                  refine ⟨wl, _, _, rfl, rfl, hw10, small_line (by rw [List.length_map]; omega), as, bs ++ [t3], rs, its ++ [(r ++ [k0], e.a)], _, _, rfl, same_upd (sm5.trans s10) nwl0, by rw [upd_ne fwl]; exact s10 _ _ hf5, by rw [List.map_append]; exact upd_same, by rw [upd_ne hol.1]; exact s10 _ _ ho5, stA _ _ hcr5, stA _ _ hcs5,
                    ringAt.stay tr5 stA, Tups.snoc (itAt.stay ti5 stA) hitem, fun x hx => ?_, sd5, al5, fun c hc => ?_, by rw [Wt_snoc, hwt2]; omega, by rw [Wt_snoc, hwt2]; omega⟩
                  · rcases List.mem_append.1 hx with hx | hx
                    · exact wo5 x hx
                    · rw [List.mem_singleton.mp hx]; exact hwo
                  · rcases cv5 c hc with z | ⟨x, hx, t, ht, z⟩ | ⟨i', t, z, hm⟩
                    · exact .inl z
                    · exact .inr (.inl ⟨x, List.mem_append_left _ hx, t, ht, z⟩)
                    · rcases List.mem_cons.1 hm with hm | hm
                      · subst hm
                        subst z
                        cases t with
                        | nil => exact absurd ((tn hc).1 rfl) hau
                        | cons a t' => exact .inr (.inl ⟨(r ++ [i'], e.a), List.mem_append_right _ (by simp), a :: t', by simp, by simp⟩)
                      · exact .inr (.inr ⟨i', t, z, hm⟩)
              · rw [decide_eq_false hgt]
                exact iteF (iteF ⟨as, bs, rs, its, _, _, rfl, sm5, hf5, hw5, ho5, hcr5, hcs5, tr5, ti5, wo5, sd5, al5, skip (fun z => hgt z.2.1), by omega, by omega⟩)
            · rw [decide_eq_false hk]
              exact iteF (iteF ⟨as, bs, rs, its, _, _, rfl, sm5, hf5, hw5, ho5, hcr5, hcs5, tr5, ti5, wo5, sd5, al5, skip (fun z => hk z.1), by omega, by omega⟩)
        · rintro σ H5 ⟨as, bs, rs, its, v8, v9, rfl, sm5, hf5, hw5, ho5, hcr5, hcs5, tr5, ti5, wo5, sd5, al5, cv5, po5, pm5⟩
          rw [vN_len] at cv5 po5 pm5
          have l6 : (outs es v).length ≤ 6 := Nat.le_trans idx_len ok.len
          have h6 : cc * (outs es v).length ≤ cc * 6 := Nat.mul_le_mul_left cc l6
          refine ⟨Wt its, by omega, as, bs, rs, its, _, _, _, _, _, rfl, sm5, hf5, hw5, tr5, ti5, wo5, sd5, al5, fun c hc => ?_, by omega, rfl⟩
          rcases cv5 c hc with z | z | ⟨i', t, _, z⟩
          · exact .inl z
          · exact .inr z
          · rw [List.drop_length] at z
            cases z
      · have hbs : bs = [] := by
          cases bs with
          | nil => rfl
          | cons a r => exact absurd (decide_eq_true (by rw [List.length_map, List.length_cons]; omega)) hgt
        subst hbs
        have hit : its = [] := by
          cases its with
          | nil => rfl
          | cons a r => have := ti2.1; simp at this
        subst hit
        refine ⟨as, rs, _, _, _, _, _, _, _, rfl, sm2, hf2, tr2, sd2, fun u' hu' c hc => ?_, by omega⟩
        rw [take_snoc hu] at hu'
        rcases List.mem_append.1 hu' with hu' | hu'
        · exact al2 u' hu' c hc
        · rw [List.mem_singleton.mp hu'] at hc
          rcases cv2 c hc with z | ⟨x, hx, _⟩
          · exact z
          · cases hx
    · rintro σ H1 ⟨as, rs, v3, v4, v5, v6, v7, v8, v9, rfl, sm1, hf1, tr1, sd1, al1, ln1⟩
      rw [vI_len, List.take_length] at al1
      rw [vI_len] at ln1
      refine ⟨_, rfl, k H1 fl as rs sm1 nfl hf1 tr1 ⟨fun r hr' => ⟨(sd1 r hr').1, (sd1 r hr').2.2⟩, fun u r hu h0 hw hnd hle => ⟨r, al1 u hu r ⟨h0, hw, hnd, hle⟩, rfl, rfl⟩⟩ (fun r hr' => (sd1 r hr').2.1) ?_⟩
      have : 2401 * kk.length ≤ 2401 * 4 := Nat.mul_le_mul_left 2401 (by omega)
      omega
end
end Nv

/-! _law_is_base, _law_is_in. -/
namespace Nv
open PySem L2
abbrev sIsBase : Stmt := top 41
abbrev sIsIn : Stmt := top 42
/-- the data that net tells -/
def toldD (w x y : Int) : PyData := if w = 0 then .tuple [] else if y = 0 then .tuple [.tuple [.int w, .int x]] else .tuple [.tuple [.int w, .int x], .tuple [.int 0, .int y]]
theorem told_dp {K : PySem.W.Frag} {H : Hp} {t : Addr} {w x y : Int} (h : ToldAt H t w x y) : Dp K H (.ref t) (toldD w x y) := by
  unfold toldD
  rcases h with ⟨a, b⟩ | ⟨a, b, p, c, d⟩ | ⟨a, b, p, q, c, d, e⟩
  · rw [if_pos a]
    exact .tup (SqT.of b) .nil
  · rw [if_neg a, if_pos b]
    exact .tup (SqT.of c) (.cons (.tup (SqT.of d) (.cons (.int w) (.cons (.int x) .nil))) .nil)
  · rw [if_neg a, if_neg b]
    exact .tup (SqT.of c) (.cons (.tup (SqT.of d) (.cons (.int w) (.cons (.int x) .nil))) (.cons (.tup (SqT.of e) (.cons (.int 0) (.cons (.int y) .nil))) .nil))
theorem told_shaped (w x y : Int) : SeqAt.shaped (toldD w x y) = true := by
  unfold toldD
  split
  · rfl
  · split <;> rfl
theorem told_eqv (w x y : Int) : PyData.eqv (toldD w x y) (.tuple []) = decide (w = 0) := by
  unfold toldD
  split
  · rename_i h
    rw [decide_eq_true h]
    simp [PyData.eqv, PyData.eqvAll]
  · rename_i h
    rw [decide_eq_false h]
    split <;> simp [PyData.eqv, PyData.eqvAll]
def spIsBase : Sp := fun vs H Q _ => ∃ (t : Addr) (w x y : Int), vs = [.ref t] ∧ ToldAt H t w x y ∧ 0 ≤ w ∧ 0 ≤ y ∧ (0 < y → 0 ≤ x ∧ x < y) ∧ ∀ H', Same H H' → Q (.bl true) H'
def spIsIn : Sp := fun vs H Q _ => ∃ (t p : Addr) (w x y a b : Int), vs = [.ref t, .ref p] ∧ ToldAt H t w x y ∧ 0 < w ∧ w ≤ 63 ∧ 0 ≤ y ∧ H p = some (.tup [.int a, .int b]) ∧ -1000 ≤ a ∧ a ≤ 1000 ∧ Lat w x y a b ∧ ∀ H', Same H H' → Q (.bl true) H'
section
variable {P : Program} {w : World} {K : PySem.W.Frag} {mg : Str → Option Value} {base : Heap} {C : Addr}
theorem scIsBase : FnScope ["_law_told"] ["_law_told"] (defScope sIsBase) := ⟨rfl, rfl, rfl, by decide +kernel, rfl, by decide +kernel, by decide +kernel⟩
theorem c_is_base (T : Txt mg) (D : DefOf K mg "_law_is_base" sIsBase ["_law_told"]) : Cal P w K mg base 1 "_law_is_base" ["_law_told"] spIsBase := by
  refine D.cal fun f fd F => F.ok scIsBase (fun vs H Q E h => ?_) (fun cdv A outer s H vs Q E hr h => ?_)
  · obtain ⟨t, w, x, y, rfl, _⟩ := h
    rfl
  · obtain ⟨t, w, x, y, rfl, ht, w0, y0, xy, k⟩ := h
    refine ⟨_, pss_cons (ps_if (pt_cmpR (op_eqD hr.units) (pv 0) (pe_tup pa_nil) (nomark _)) (pss_one (ps_ret pe_bl)) pss_nil)
      (pss_cons (ps_if (PW.pt (pw_or (pt_not (pt_val (pe_callB call_isi (by rfl) T.isi (by decide +kernel) (pa_cons (pv 0) (pa_cons (pe_bltn (v := .ty "tuple") (by rfl) T.tuple (by decide +kernel) rfl) pa_nil)))))
          (pw_or (pt_cmpR op_gt (pe_callB call_len_seq (by rfl) T.len PySem.boot_len (pa_cons (pv 0) pa_nil)) pe_int (nomark _)) (pw_or1 (pt_cmpR op_lt (pe_ix ix_tup (pix 0) pe_int (fun _ _ => rfl)) pe_int (nomark _)))))) (pss_one (ps_ret pe_bl)) pss_nil)
      (pss_cons (ps_if (pt_cmpR op_eq (pe_callB call_len_seq (by rfl) T.len PySem.boot_len (pa_cons (pv 0) pa_nil)) pe_int (nomark _)) (pss_one (ps_ret pe_bl)) pss_nil)
      (pss_one (ps_ret (pe_and (pe_cmpR op_eq (pe_ix ix_tup (pix 0) pe_int (fun _ _ => rfl)) pe_int (nomark _)) (pe_and (pe_cmpR op_gt (pe_ix ix_tup (pix 0) pe_int (fun _ _ => rfl)) pe_int (nomark _))
        (pe_and (pe_cmpR op_le pe_int (pe_ix ix_tup (pix 0) pe_int (fun _ _ => rfl)) (nomark _)) (pe_one (pe_cmpR op_lt (pe_ix ix_tup (pix 0) pe_int (fun _ _ => rfl)) (pe_ix ix_tup (pix 0) pe_int (fun _ _ => rfl)) (nomark _)))))))))), ?_⟩
    refine ⟨_, rfl, Nat.zero_le _, fun e ne => ?_⟩
    have sm := same_new (o := .tup []) (Same.refl H) ne
    have ht' := ht.same sm
    refine ⟨_, _, told_dp ht', .tup (SqT.of upd_same) .nil, told_shaped w x y, rfl, _, rfl, ?_⟩
    rw [told_eqv]
    rcases ht' with ⟨a, b⟩ | ⟨a, b, p, c, d⟩ | ⟨a, b, p, q, c, d, e'⟩
    · rw [decide_eq_true a]
      exact iteT (k _ sm)
    · rw [decide_eq_false a]
      refine iteF ⟨_, rfl, _, _, _, _, true, rfl, .ty "tuple", .base (.tup c), kit_ty (by decide +kernel), _, rfl, iteF ?_⟩
      refine ⟨_, rfl, t, _, rfl, .inr (SqT.of c), _, _, rfl, rfl, _, rfl, iteF ?_⟩
      refine ⟨_, rfl, t, _, _, _, rfl, rfl, SqT.of c, oat0, p, _, _, _, rfl, rfl, SqT.of d, pat0, _, _, rfl, rfl, _, rfl, ?_⟩
      rw [show decide (w < 1) = false from decide_eq_false (by omega)]
      refine iteF ⟨_, rfl, t, _, rfl, .inr (SqT.of c), rfl, _, rfl, iteT (k _ sm)⟩
    · rw [decide_eq_false a]
      have hy := xy (by omega)
      refine iteF ⟨_, rfl, _, _, _, _, true, rfl, .ty "tuple", .base (.tup c), kit_ty (by decide +kernel), _, rfl, iteF ?_⟩
      refine ⟨_, rfl, t, _, rfl, .inr (SqT.of c), _, _, rfl, rfl, _, rfl, iteF ?_⟩
      refine ⟨_, rfl, t, _, _, _, rfl, rfl, SqT.of c, pat0, p, _, _, _, rfl, rfl, SqT.of d, pat0, _, _, rfl, rfl, _, rfl, ?_⟩
      rw [show decide (w < 1) = false from decide_eq_false (by omega)]
      refine iteF ⟨_, rfl, t, _, rfl, .inr (SqT.of c), rfl, _, rfl, iteF ?_⟩
      refine ⟨_, rfl, t, _, _, _, rfl, rfl, SqT.of c, pat1, q, _, _, _, rfl, rfl, SqT.of e', pat0, rfl, _, rfl, iteT ?_⟩
      refine ⟨_, rfl, t, _, _, _, rfl, rfl, SqT.of c, pat1, q, _, _, _, rfl, rfl, SqT.of e', pat1, _, _, rfl, rfl, _, rfl, ?_⟩
      rw [show decide ((0 : Int) < y) = true from decide_eq_true (by omega)]
      refine iteT ⟨_, rfl, t, _, _, _, rfl, rfl, SqT.of c, pat0, p, _, _, _, rfl, rfl, SqT.of d, pat1, _, _, rfl, rfl, _, rfl, ?_⟩
      rw [show decide ((0 : Int) ≤ x) = true from decide_eq_true hy.1]
      refine iteT ⟨_, rfl, t, _, _, _, rfl, rfl, SqT.of c, pat0, p, _, _, _, rfl, rfl, SqT.of d, pat1, _, rfl, t, _, _, _, rfl, rfl, SqT.of c, pat1, q, _, _, _, rfl, rfl, SqT.of e', pat1, _, _, rfl, rfl, ?_⟩
      have := k _ sm
      rw [← (show decide (x < y) = true from decide_eq_true hy.2)] at this
      exact this
theorem scIsIn : FnScope ["_law_told", "_law_pair", "_law_rest"] ["_law_told", "_law_pair"] (defScope sIsIn) := ⟨rfl, rfl, rfl, by decide +kernel, rfl, by decide +kernel, by decide +kernel⟩
theorem c_is_in (T : Txt mg) (D : DefOf K mg "_law_is_in" sIsIn ["_law_told", "_law_pair"]) : Cal P w K mg base 1 "_law_is_in" ["_law_told", "_law_pair"] spIsIn := by
  refine D.cal fun f fd F => F.ok scIsIn (fun vs H Q E h => ?_) (fun cdv A outer s H vs Q E hr h => ?_)
  · obtain ⟨t, p, w, x, y, a, b, rfl, _⟩ := h
    rfl
  · obtain ⟨t, p, w, x, y, a, b, rfl, ht, w0, w63, y0, hp, a0, a1, ⟨i, j, ea, eb⟩, k⟩ := h
    refine ⟨_, pss_cons (ps_if (pt_cmpR (op_eqD hr.units) (pv 0) (pe_tup pa_nil) (nomark _)) (pss_one (ps_ret (pe_cmpR (op_eqD hr.units) (pv 1) (pe_tup (pa_cons pe_int (pa_cons pe_int pa_nil))) (nomark _)))) pss_nil)
      (pss_cons (ps_if (pt_cmpR op_ne (pe_op op_mod (pix 1) (pe_ix ix_tup (pix 0) pe_int (fun _ _ => rfl))) pe_int (nomark _)) (pss_one (ps_ret pe_bl)) pss_nil)
      (pss_cons (ps_set (i := 2) scIsIn.nd rfl (.inl rfl) (pe_op op_sub (pix 1) (pe_op op_mul (pe_op op_fdiv (pix 1) (pe_ix ix_tup (pix 0) pe_int (fun _ _ => rfl))) (pe_ix ix_tup (pix 0) pe_int (fun _ _ => rfl)))))
      (pss_cons (ps_if (pt_cmpR op_eq (pe_callB call_len_seq (by rfl) T.len PySem.boot_len (pa_cons (pv 0) pa_nil)) pe_int (nomark _)) (pss_one (ps_ret (pe_cmpR op_eq (pv 2) pe_int (nomark _)))) pss_nil)
      (pss_one (ps_ret (pe_cmpR op_eq (pe_op op_mod (pv 2) (pe_ix ix_tup (pix 0) pe_int (fun _ _ => rfl))) pe_int (nomark _))))))), ?_⟩
    refine ⟨_, rfl, Nat.zero_le _, fun e ne => ?_⟩
    have sm := same_new (o := .tup []) (Same.refl H) ne
    have ht' := ht.same sm
    have hp' := sm _ _ hp
    refine ⟨_, _, told_dp ht', .tup (SqT.of upd_same) .nil, told_shaped w x y, rfl, _, rfl, ?_⟩
    rw [told_eqv, decide_eq_false (show ¬ w = 0 by omega)]
    have hd : a / w = i := by rw [ea]; exact Int.mul_ediv_cancel i (by omega)
    have hm : a % w = 0 := by rw [ea]; exact Int.mul_emod_left i w
    have hk := k _ sm
    have dlo : -1000 ≤ a / w := (Int.le_ediv_iff_mul_le w0).mpr (by omega)
    have dhi : a / w ≤ 1000 := by
      have := Int.ediv_le_ediv w0 a1
      have h2 : (1000 : Int) / w ≤ 1000 := Int.ediv_le_self _ (by omega)
      omega
    rcases ht' with ⟨z, _⟩ | ⟨_, b1, q, c, d⟩ | ⟨_, b1, q, r, c, d, e'⟩
    · omega
    · refine iteF ⟨_, rfl, p, _, _, _, rfl, rfl, SqT.of hp', pat0, _, rfl, t, _, _, _, rfl, rfl, SqT.of c, oat0, q, _, _, _, rfl, rfl, SqT.of d, pat0, _, _, rfl, rfl, w0, rfl, _, rfl, ?_⟩
      rw [dec_int, hm]
      refine iteF ⟨_, rfl, p, _, _, _, rfl, rfl, SqT.of hp', pat1, _, rfl, p, _, _, _, rfl, rfl, SqT.of hp', pat0, _, rfl, t, _, _, _, rfl, rfl, SqT.of c, oat0, q, _, _, _, rfl, rfl, SqT.of d, pat0, _, _, rfl, rfl, ⟨w0, by omega⟩, _, rfl, t, _, _, _, rfl, rfl, SqT.of c, oat0, q, _, _, _, rfl, rfl, SqT.of d, pat1, _, _, rfl, rfl, .inl ⟨by omega, by omega⟩, _, _, rfl, rfl, ?_⟩
      refine ⟨_, rfl, t, _, rfl, .inr (SqT.of c), rfl, _, rfl, iteT ?_⟩
      refine ⟨_, rfl, rfl, ?_⟩
      have hz : b - a / w * x = 0 := by rw [hd, eb, b1]; omega
      show Q (.bl (decide (V.int (b - a / w * x) = V.int 0))) _
      rw [hz]
      exact hk
    · refine iteF ⟨_, rfl, p, _, _, _, rfl, rfl, SqT.of hp', pat0, _, rfl, t, _, _, _, rfl, rfl, SqT.of c, pat0, q, _, _, _, rfl, rfl, SqT.of d, pat0, _, _, rfl, rfl, w0, rfl, _, rfl, ?_⟩
      rw [dec_int, hm]
      refine iteF ⟨_, rfl, p, _, _, _, rfl, rfl, SqT.of hp', pat1, _, rfl, p, _, _, _, rfl, rfl, SqT.of hp', pat0, _, rfl, t, _, _, _, rfl, rfl, SqT.of c, pat0, q, _, _, _, rfl, rfl, SqT.of d, pat0, _, _, rfl, rfl, ⟨w0, by omega⟩, _, rfl, t, _, _, _, rfl, rfl, SqT.of c, pat0, q, _, _, _, rfl, rfl, SqT.of d, pat1, _, _, rfl, rfl, .inl ⟨by omega, by omega⟩, _, _, rfl, rfl, ?_⟩
      refine ⟨_, rfl, t, _, rfl, .inr (SqT.of c), rfl, _, rfl, iteF ?_⟩
      have hz : (b - a / w * x) % y = 0 := by
        rw [hd, eb, show i * x + j * y - i * x = j * y by omega]
        exact Int.mul_emod_left j y
      refine ⟨_, rfl, _, rfl, t, _, _, _, rfl, rfl, SqT.of c, pat1, r, _, _, _, rfl, rfl, SqT.of e', pat1, _, _, rfl, rfl, by omega, rfl, ?_⟩
      show Q (.bl (decide (V.int ((b - a / w * x) % y) = V.int 0))) _
      rw [hz]
      exact hk
end
end Nv

/-! The law's sums and divisors, in plain. -/
namespace Nv
open PySem L2
theorem sum_in {α : Type} (f : α → Int) (lo hi : Int) (h : ∀ a, lo ≤ f a ∧ f a ≤ hi) : ∀ l : List α, lo * l.length ≤ (l.map f).sum ∧ (l.map f).sum ≤ hi * l.length
  | [] => by simp
  | a :: t => by
    have ih := sum_in f lo hi h t
    have ha := h a
    rw [List.map_cons, List.sum_cons, List.length_cons]
    have e1 : lo * ((t.length + 1 : Nat) : Int) = lo * t.length + lo := by rw [Int.natCast_add, Int.mul_add]; simp
    have e2 : hi * ((t.length + 1 : Nat) : Int) = hi * t.length + hi := by rw [Int.natCast_add, Int.mul_add]; simp
    rw [e1, e2]
    omega
theorem sums_in {n : Int} {es : List Ev} (ok : OkParts n es) {r : List Nat} (l4 : r.length ≤ 4) : (0 ≤ sT es r ∧ sT es r ≤ 12) ∧ (-24 ≤ sP es r ∧ sP es r ≤ 24) := by
  have h1 := sum_in (fun i => (es[i]?.map Ev.t).getD 0) 0 3 (fun i => by
    cases he : es[i]? with
    | none => show (0 : Int) ≤ 0 ∧ (0 : Int) ≤ 3; omega
    | some e => have := ok.at he; exact ⟨by show 0 ≤ e.t; have := this.t1; omega, this.t3⟩) r
  have h2 := sum_in (fun i => (es[i]?.map Ev.p).getD 0) (-6) 6 (fun i => by
    cases he : es[i]? with
    | none => show (-6 : Int) ≤ 0 ∧ (0 : Int) ≤ 6; omega
    | some e => have := ok.at he; exact ⟨this.p0, this.p6⟩) r
  unfold sT sP
  omega
/-- g is the greatest that goes into all of p -/
structure Com (g : Int) (p : Int → Prop) : Prop where
  nn : 0 ≤ g
  iff : ∀ c, c ∣ g ↔ p c
theorem Com.zero {p : Int → Prop} (h : ∀ c, p c) : Com 0 p := ⟨Int.le_refl _, fun c => ⟨fun _ => h c, fun _ => Int.dvd_zero c⟩⟩
theorem Com.more {g a : Int} {p q : Int → Prop} (h : Com g p) (e : ∀ c, q c ↔ p c ∧ c ∣ a) : Com ((Int.gcd g a : Nat) : Int) q :=
  ⟨Int.natCast_nonneg _, fun c => by rw [dvd_gcd_iff, h.iff, e]⟩
theorem Com.as {g : Int} {p q : Int → Prop} (h : Com g p) (e : ∀ c, q c ↔ p c) : Com g q := ⟨h.nn, fun c => by rw [h.iff, e]⟩
def cr (es : List Ev) (r r' : List Nat) : Int := sT es r * sP es r' - sP es r * sT es r'
/-- into the tries of the first i rings -/
def tries (es : List Ev) (rs : List (List Nat)) (i : Nat) (c : Int) : Prop := ∀ r ∈ rs.take i, c ∣ sT es r
def crossed (es : List Ev) (rs : List (List Nat)) (i : Nat) (c : Int) : Prop := ∀ r ∈ rs.take i, ∀ r' ∈ rs, c ∣ cr es r r'
theorem forall_snoc {α : Type} {p : α → Prop} {l : List α} {a : α} : (∀ x ∈ l ++ [a], p x) ↔ (∀ x ∈ l, p x) ∧ p a := by
  constructor
  · intro h
    exact ⟨fun x hx => h x (List.mem_append_left _ hx), h a (List.mem_append_right _ (by simp))⟩
  · rintro ⟨h, ha⟩ x hx
    rcases List.mem_append.1 hx with hx | hx
    · exact h x hx
    · rw [List.mem_singleton.mp hx]; exact ha
theorem tries_succ {es : List Ev} {rs : List (List Nat)} {i : Nat} {r : List Nat} (h : rs[i]? = some r) (c : Int) : tries es rs (i + 1) c ↔ tries es rs i c ∧ c ∣ sT es r := by
  unfold tries
  rw [take_snoc h]
  exact forall_snoc
theorem crossed_succ {es : List Ev} {rs : List (List Nat)} {i : Nat} {r : List Nat} (h : rs[i]? = some r) (c : Int) : crossed es rs (i + 1) c ↔ crossed es rs i c ∧ ∀ r' ∈ rs, c ∣ cr es r r' := by
  unfold crossed
  rw [take_snoc h]
  exact forall_snoc
theorem cr_in {n : Int} {es : List Ev} (ok : OkParts n es) {r r' : List Nat} (l4 : r.length ≤ 4) (l4' : r'.length ≤ 4) : -600 ≤ cr es r r' ∧ cr es r r' ≤ 600 := by
  obtain ⟨⟨a, b⟩, c, d⟩ := sums_in ok l4
  obtain ⟨⟨a', b'⟩, c', d'⟩ := sums_in ok l4'
  have bd : ∀ u v : Int, 0 ≤ u → u ≤ 12 → -24 ≤ v → v ≤ 24 → -288 ≤ u * v ∧ u * v ≤ 288 := fun u v h1 h2 h3 h4 => by
    have m1 : u * v ≤ u * 24 := Int.mul_le_mul_of_nonneg_left h4 h1
    have m2 : u * (-24) ≤ u * v := Int.mul_le_mul_of_nonneg_left h3 h1
    omega
  have h1 := bd _ _ a b c' d'
  have h2 := bd _ _ a' b' c d
  unfold cr
  rw [Int.mul_comm (sP es r)]
  omega
/-! ### the pairs of the rings, as data -/
def pairAt (es : List Ev) (r : List Nat) (H : Hp) (c : Addr) : Prop := H c = some (.tup [.int (sT es r), .int (sP es r)])
theorem pairs_same {es : List Ev} {H H' : Hp} {as : List Addr} {rs : List (List Nat)} (h : Tups (pairAt es) H as rs) (s : Same H H') : Tups (pairAt es) H' as rs := h.keep fun x c e => s _ _ e
def pairD (es : List Ev) (r : List Nat) : PyData := .tuple [.int (sT es r), .int (sP es r)]
theorem pairs_dp {K : PySem.W.Frag} {es : List Ev} {H : Hp} : ∀ {as : List Addr} {rs : List (List Nat)}, Tups (pairAt es) H as rs → DpAll K H (as.map V.ref) (rs.map (pairD es))
  | [], [], _ => .nil
  | [], _ :: _, h => by have := h.1; simp at this
  | _ :: _, [], h => by have := h.1; simp at this
  | a :: as, r :: rs, h => by
    obtain ⟨c, h1, h2⟩ := h.2 0 r rfl
    cases h1
    refine .cons (.tup (SqT.of h2) (.cons (.int _) (.cons (.int _) .nil))) (pairs_dp ⟨Nat.succ.inj h.1, fun i x hx => ?_⟩)
    exact h.2 (i + 1) x hx
theorem pairs_lay {es : List Ev} : ∀ rs : List (List Nat), PyData.canLayAll0 (rs.map (pairD es)) = true ∧ PyData.depthAll (rs.map (pairD es)) ≤ 1
  | [] => ⟨rfl, Nat.zero_le _⟩
  | r :: rs => by
    obtain ⟨h1, h2⟩ := pairs_lay (es := es) rs
    constructor
    · rw [List.map_cons]
      show (PyData.canLay0 (pairD es r) && PyData.canLayAll0 (rs.map (pairD es))) = true
      rw [h1]
      rfl
    · rw [List.map_cons]
      show max (PyData.depth (pairD es r)) (PyData.depthAll (rs.map (pairD es))) ≤ 1
      have : PyData.depth (pairD es r) ≤ 1 := by
        show max 0 (max 0 0) + 1 ≤ 1
        decide
      omega
theorem pairs_shaped {es : List Ev} {rs : List (List Nat)} : SeqAt.shaped (.list (rs.map (pairD es))) = true := by
  obtain ⟨h1, h2⟩ := pairs_lay (es := es) rs
  unfold SeqAt.shaped
  rw [Bool.and_eq_true]
  refine ⟨?_, decide_eq_true ?_⟩
  · show PyData.canLayAll0 _ = true
    exact h1
  · show PyData.depthAll _ + 1 ≤ 64
    omega
theorem pairs_eqv {es : List Ev} {rs : List (List Nat)} : PyData.eqv (.list (rs.map (pairD es))) (.list []) = decide (rs = []) := by
  cases rs with
  | nil =>
    rw [decide_eq_true rfl]
    simp [PyData.eqv, PyData.eqvAll]
  | cons r rs =>
    rw [decide_eq_false (by intro h; cases h)]
    simp [PyData.eqv, PyData.eqvAll]
theorem bl_all (m : Nat) : (List.replicate m true).all id = true := by
  induction m with
  | zero => rfl
  | succ m ih => rw [List.replicate_succ, List.all_cons, ih]; rfl
theorem seq_join {t u : TS} {D : Ends} {σ : St} {H : Hp} (G : St → Hp → Prop) (hG : ∀ σ H, G σ H → u D σ H) (h : (∀ σ H, G σ H → u D σ H) → tSeq t u D σ H) : tSeq t u D σ H := h hG
theorem PartsAt.but {H H' : Hp} {p ga sa q : Addr} {n : Int} {es : List Ev} (h : PartsAt H q n es) (pt : PotAt H p ga sa) (b : But H H' p ga) : PartsAt H' q n es := by
  obtain ⟨l, h1, as, a1, a2, a3⟩ := h
  have st : ∀ c xs, H c = some (.tup xs) → H' c = some (.tup xs) := fun c xs e => b c _ e (pt.tupNe e).1 (pt.tupNe e).2
  exact ⟨l, st _ _ h1, as, st _ _ a1, a2, fun i e he => let ⟨x, hx, ho⟩ := a3 i e he; ⟨x, hx, st _ _ ho⟩⟩
def evAt (e : Ev) (H : Hp) (c : Addr) : Prop := H c = some (.tup (evV e))
/-- the points a multiple of the tries -/
def mulEv (m : Int) (e : Ev) : Ev := ⟨e.b, e.a, e.t, m * e.t⟩
theorem mulEv_ok {n m : Int} {es : List Ev} (ok : OkParts n es) (m0 : -2 ≤ m) (m1 : m ≤ 2) : OkParts n (es.map (mulEv m)) := by
  refine ⟨ok.n1, ok.n4, by rw [List.length_map]; exact ok.len, fun e he => ?_⟩
  obtain ⟨d, inEs, rfl⟩ := List.mem_map.mp he
  have o := ok.ev d inEs
  have t1 := o.t1
  have t3 := o.t3
  have b1 : m * d.t ≤ 2 * d.t := Int.mul_le_mul_of_nonneg_right m1 (by omega)
  have b2 : -2 * d.t ≤ m * d.t := Int.mul_le_mul_of_nonneg_right m0 (by omega)
  exact ⟨o.b0, o.bn, o.a0, o.an, o.t1, o.t3, by show -6 ≤ m * d.t; omega, by show m * d.t ≤ 6; omega⟩
theorem way_lt {es : List Ev} : ∀ {r : List Nat} {u v : Int}, Way es u r v → ∀ i ∈ r, i < es.length
  | [], _, _, _, i, hi => by cases hi
  | j :: r, u, v, w, i, hi => by
    obtain ⟨e, he, _, w'⟩ := w.uncons
    rcases List.mem_cons.1 hi with hi | hi
    · rw [hi]; exact (List.getElem?_eq_some_iff.mp he).1
    · exact way_lt w' i hi
theorem evs_of {H : Hp} {l : Addr} {bs : List Addr} {es : List Ev} (h : H l = some (.tup (bs.map V.ref))) (t : Tups evAt H bs es) : EvsAt H l es := ⟨bs, h, t.1, t.2⟩
end Nv

/-! law. -/
namespace Nv
open PySem L2
abbrev sLaw : Stmt := top 43
def spLaw (K : PySem.W.Frag) : Sp := fun vs H Q _ => ∃ (a : Addr) (ns : List Int), vs = [.ref a] ∧ SqL K H a (ns.map V.int) ∧ ns.length ≤ 63 ∧ ∀ H', Q (.bl true) H'
/-- what the law calls -/
structure Calls (P : Program) (w : World) (K : PySem.W.Frag) (mg : Str → Option Value) (base : Heap) (C fI : Addr) (fdI : FuncData) : Prop where
  pot : Cal P w K mg base 1 "_law_pot" ["_law_script"] (spPot K)
  draw : Cal P w K mg base 1 "_law_draw" ["_law_pot_here", "_law_many"] spDraw
  parts : Cal P w K mg base 2 "_law_parts" ["_law_pot_here", "_law_most_standings", "_law_most_events"] spParts
  gcd : Cal P w K mg base 1 "_law_gcd" ["_law_one", "_law_other"] spGcd
  reached : Cal P w K mg base 2 "_law_reached" ["_law_parts_here"] spLReached
  knot : Cal P w K mg base 3 "_law_knot" ["_law_parts_here", "_law_standing"] spLKnot
  rings : Cal P w K mg base 2 "_law_rings" ["_law_parts_here", "_law_knot_here"] spRings
  sums : Cal P w K mg base 1 "_law_sums" ["_law_parts_here", "_law_ring"] spSums
  isBase : Cal P w K mg base 1 "_law_is_base" ["_law_told"] spIsBase
  isIn : Cal P w K mg base 1 "_law_is_in" ["_law_told", "_law_pair"] spIsIn
  net : Cal P w K mg base 6 "net" ["machine", "standing"] (spNet C)
  area : Cal P w K mg base 7 "area" ["machine", "standing"] (spArea C)
  mach : Mk K C fI
  new : FnOk P w K mg base CX0 4 fI fdI ["self", "standings", "events"] (spKeep C)
  bI : Binds K fdI ["self", "standings", "events"] []
section
variable {P : Program} {w : World} {K : PySem.W.Frag} {mg : Str → Option Value} {base : Heap} {C fI : Addr} {fdI : FuncData}
abbrev lawN : List Str := ["_law_script", "_law_pot_here", "_law_parts_here", "_law_times", "_law_machine", "_law_standing", "_law_pairs", "_law_told", "_law_tries", "_law_cross", "_law_one", "_law_other", "_law_due", "_law_event", "_law_ring", "_law_pair"]
theorem scLaw : FnScope lawN ["_law_script"] (defScope sLaw) := ⟨rfl, rfl, rfl, by decide +kernel, rfl, by decide +kernel, by decide +kernel⟩
theorem ok_law {f : Addr} {fd : FuncData} (F : Fun K "law" "law" sLaw f fd) (T : Txt mg) (M : TxtM K mg C) (c : Calls P w K mg base C fI fdI) : FnOk P w K mg base CX0 8 f fd ["_law_script"] (spLaw K) := by
  refine F.ok scLaw (fun vs H Q E h => ?_) (fun cdv A outer s H vs Q E hr h => ?_)
  · obtain ⟨a, ns, rfl, _⟩ := h
    rfl
  · obtain ⟨a, ns, rfl, hS, hl, k⟩ := h
    refine ⟨_, pss_cons (ps_set (i := 1) scLaw.nd rfl (.inl rfl) (pcal c.pot hr (pa_cons (pv 0) pa_nil)))
      (pss_cons (ps_set (i := 2) scLaw.nd rfl (.inr rfl) (pcal c.parts hr (pa_cons (pv 1) (pa_cons pe_int (pa_cons pe_int pa_nil)))))
      (pss_cons (ps_if (pt_cmpR op_eq (pcal c.draw hr (pa_cons (pv 1) (pa_cons pe_int pa_nil))) pe_int (nomark _))
        (pss_cons (ps_set (i := 3) scLaw.nd rfl (.inr rfl) (pe_op op_sub (pcal c.draw hr (pa_cons (pv 1) (pa_cons pe_int pa_nil))) pe_int))
        (pss_one (ps_set (i := 2) scLaw.nd rfl (.inr rfl) (pe_tup (pa_cons (pix 2) (pa_cons (pe_callTy call_tuple_of (by rfl) T.tuple (by decide +kernel) (pa_cons
          (pe_lc (own := [("_law_event", 13)]) (g := gName 13) (tt := tYes) (te := tOp (rCatA K) (tSl (rSlA K) (tVar 13) tNoPart (tPart (tC (.int 3)))) (tTup (tCons (tOp (rI CMul fun i j => .int (i * j)) (tVar 3) (tOp (rIxT K) (tVar 13) (tC (.int 2)))) tNil))) rfl scLaw.nd (pi_tup (pix 2))
            (blkOk_by (own := [("_law_event", 13)]) (N := lawN) (sc := defScope sLaw) (by decide +kernel)) (fun _ _ _ _ _ => pg_name (i := 13) scLaw.nd rfl (.inl rfl)) (fun _ _ _ _ _ => pts_nil)
            (fun _ _ _ _ _ => pe_op op_catA (pe_slice sl_tupA (pv 13) po_none (po_some pe_int)) (pe_tup (pa_cons (pe_op op_mul (pv 3) (pix 13)) pa_nil)))) pa_nil)) pa_nil)))))) pss_nil)
      (pss_cons (ps_set (i := 4) scLaw.nd rfl (.inl rfl) (pe_make c.mach c.new (hr.mono (by decide)) (by rfl) M.mgC c.bI .nil pass0 (pa_cons (pix 2) (pa_cons (pix 2) pa_nil))))
      (pss_cons (ps_for PassesOwn.never rfl (pi_list (pcal c.reached hr (pa_cons (pv 2) pa_nil))) (pg_name (i := 5) scLaw.nd rfl (.inl rfl))
        (pss_cons (ps_setLc (i := 6) (own := [("_law_ring", 14)]) (g := gName 14) (tt := tYes) (te := tCall spSums [] E0 (tCons (tVar 2) (tCons (tVar 14) tNil))) rfl scLaw.nd rfl rfl (sw_true rfl rfl rfl (by decide +kernel))
            (pi_list (pcal c.rings hr (pa_cons (pv 2) (pa_cons (pcal c.knot hr (pa_cons (pv 2) (pa_cons (pv 5) pa_nil))) pa_nil))))
            (blkOk_by (own := [("_law_ring", 14)]) (N := lawN) (sc := defScope sLaw) (by decide +kernel)) (fun _ _ _ _ _ => pg_name (i := 14) scLaw.nd rfl (.inl rfl)) (fun _ _ _ _ _ => pts_nil)
            (fun _ _ _ _ _ => pcal c.sums hr (pa_cons (pv 2) (pa_cons (pv 14) pa_nil))))
        (pss_cons (ps_set (i := 7) scLaw.nd rfl (.inr rfl) (pcal c.net hr (pa_cons (pv 4) (pa_cons (pv 5) pa_nil))))
        (pss_cons (ps_if (PW.pt (pw_or (pt_not (pt_val (pcal c.isBase hr (pa_cons (pv 7) pa_nil)))) (pw_or1 (pt_cmpR op_ne (pe_cmpR (op_eqD hr.units) (pv 7) (pe_tup pa_nil) (nomark _)) (pe_cmpR (op_eqD hr.units) (pv 6) (pe_lst pa_nil) (nomark _)) (nomark _))))) (pss_one (ps_ret pe_bl)) pss_nil)
        (pss_cons (ps_if (pt_not (pt_val (pe_callB (cr_all rfl) (by rfl) T.all (by decide +kernel) (pa_cons
            (pe_lc (own := [("_law_pair", 15)]) (g := gName 15) (tt := tYes) (te := tCall spIsIn [] E0 (tCons (tVar 7) (tCons (tVar 15) tNil))) rfl scLaw.nd (pi_list (pv 6))
              (blkOk_by (own := [("_law_pair", 15)]) (N := lawN) (sc := defScope sLaw) (by decide +kernel)) (fun _ _ _ _ _ => pg_name (i := 15) scLaw.nd rfl (.inl rfl)) (fun _ _ _ _ _ => pts_nil)
              (fun _ _ _ _ _ => pcal c.isIn hr (pa_cons (pv 7) (pa_cons (pv 15) pa_nil)))) pa_nil)))) (pss_one (ps_ret pe_bl)) pss_nil)
        (pss_cons (ps_set (i := 8) scLaw.nd rfl (.inl rfl) pe_int)
        (pss_cons (ps_set (i := 9) scLaw.nd rfl (.inl rfl) pe_int)
        (pss_cons (ps_for PassesOwn.never rfl (pi_list (pv 6)) (pg_name (i := 10) scLaw.nd rfl (.inl rfl))
          (pss_cons (ps_set (i := 8) scLaw.nd rfl (.inl rfl) (pcal c.gcd hr (pa_cons (pv 8) (pa_cons (pix 10) pa_nil))))
          (pss_one (ps_for PassesOwn.never rfl (pi_list (pv 6)) (pg_name (i := 11) scLaw.nd rfl (.inl rfl))
            (pss_one (ps_set (i := 9) scLaw.nd rfl (.inl rfl) (pcal c.gcd hr (pa_cons (pv 9) (pa_cons (pe_op op_sub (pe_op op_mul (pix 10) (pix 11)) (pe_op op_mul (pix 10) (pix 11))) pa_nil)))))))))
        (pss_cons (ps_if (PW.pt (pw_and (pt_cmpR (op_neD hr.units) (pv 6) (pe_lst pa_nil) (nomark _)) (pw_and1 (pt_cmpR op_ne (pe_ix ix_tup (pix 7) pe_int (fun _ _ => rfl)) (pv 8) (nomark _))))) (pss_one (ps_ret pe_bl)) pss_nil)
        (pss_cons (ps_set (i := 12) scLaw.nd rfl (.inl rfl) pe_int)
        (pss_cons (ps_if (pt_cmpR op_eq (pe_callB call_len_seq (by rfl) T.len PySem.boot_len (pa_cons (pv 7) pa_nil)) pe_int (nomark _)) (pss_one (ps_set (i := 12) scLaw.nd rfl (.inl rfl) (pe_op op_mul (pe_ix ix_tup (pix 7) pe_int (fun _ _ => rfl)) (pe_ix ix_tup (pix 7) pe_int (fun _ _ => rfl))))) pss_nil)
        (pss_one (ps_if (PW.pt (pw_or (pt_cmpR op_ne (pcal c.area hr (pa_cons (pv 4) (pa_cons (pv 5) pa_nil))) (pv 12) (nomark _)) (pw_or1 (pt_cmpR op_ne (pv 12) (pv 9) (nomark _))))) (pss_one (ps_ret pe_bl)) pss_nil)))))))))))))
      (pss_one (ps_ret pe_bl)))))), ?_⟩
    -- the pot, the parts
    refine ⟨_, rfl, a, ns, rfl, hS, hl, fun H1 pt ga sa sm1 np nga pot1 => ?_⟩
    refine ⟨_, rfl, pt, ga, sa, rfl, pot1, fun H2 q0 n es0 but2 pot2 hP0 ok0 => ?_⟩
    dsimp only [gName]
    refine seq_join (fun σ H5 => ∃ (q : Addr) (es : List Ev) (v3 : Option V), σ = [some (.ref a), some (.ref pt), some (.ref q), v3, none, none, none, none, none, none, none, none, none, none, none, none] ∧ PartsAt H5 q n es ∧ OkParts n es) ?_ (fun J => ?_)
    · rintro σ H5 ⟨q, es, v3, rfl, hP, ok⟩
      obtain ⟨le, hq, hE⟩ := id hP
      have n1 := ok.n1
      have n4 := ok.n4
      -- the machine
      refine ⟨_, rfl, q, _, _, _, rfl, rfl, SqT.of hq, pat0, _, rfl, q, _, _, _, rfl, rfl, SqT.of hq, pat1, fun m dx nm ndx hne => ?_⟩
      have nm2 : (upd H5 dx (.own m)) m = none := by rw [upd_ne hne.symm]; exact nm
      refine ⟨m, dx, le, n, es, rfl, upd_same, hE.same (same_new (same_new (Same.refl _) ndx) nm2), ok, fun H6 kp hM => ⟨rfl, ?_⟩⟩
      have sm6 : Same H5 H6 := fun b o e => kp b o (by rw [upd_ne (ne_of_none e nm), upd_ne (ne_of_none e ndx)]; exact e) (ne_of_none e nm)
      have hP6 := hP.same sm6
      have t1 : ∀ e ∈ es, 1 ≤ e.t := fun e he => (ok.ev e he).t1
      refine ⟨_, rfl, q, n, es, rfl, hP6, ok, fun H7 rl ys sm7 nrl hrl hre => ⟨rl, rfl, ⟨_, SqL.of hrl⟩, for_list (K := K) (a := rl) (xs := vI ys)
        (fun i σ H8 => ∃ v5 v6 v7 v8 v9 v10 v11 v12 : Option V, σ = [some (.ref a), some (.ref pt), some (.ref q), v3, some (.ref m), v5, v6, v7, v8, v9, v10, v11, v12, none, none, none] ∧ Same H7 H8)
        ⟨none, none, none, none, none, none, none, none, rfl, Same.refl _⟩ (fun i σ H8 _ ⟨_, _, _, _, _, _, _, _, _, g⟩ => SqL.of (g _ _ hrl)) ?_ ?_⟩⟩
      · rintro i z σ H8 hi ⟨v5, v6, v7, v8, v9, v10, v11, v12, rfl, sm8⟩
        obtain ⟨s, hs, rfl⟩ := at_vI hi
        have hsr : Reach es 0 s := hre s (List.mem_of_getElem? hs)
        obtain ⟨s0, s1⟩ := reach_in ok (Int.le_refl _) (by omega) hsr
        have hP8 := hP6.same (sm7.trans sm8)
        have hM8 := hM.same (sm7.trans sm8)
        -- the rings' pairs
        refine ⟨_, rfl, _, rfl, _, rfl, q, n, s, es, rfl, hP8, ok, s0, s1, fun H9 kl kk sm9 nkl hkl ndk memk => ?_⟩
        have ek : (fun v => v ∈ kk) = Knot es s := funext fun v => propext (memk v)
        have CL : Class es (Knot es s) := knot_class
        refine ⟨q, kl, n, es, kk, rfl, hP8.same sm9, ok, hkl, ndk, fun x hx => reach_in ok s0 s1 ((memk x).mp hx).1, by rw [ek]; exact CL, fun H10 l as rs sm10 nl hl10 tr10 RO len4 lrs => ⟨l, rfl, ⟨_, SqL.of hl10⟩, fun pl npl => ?_⟩⟩
        rw [ek] at RO
        have hP10 := (hP8.same sm9).same sm10
        have hM10 := (hM8.same sm9).same sm10
        have sm810 := sm9.trans sm10
        refine lc_list (K := K) (a := l) (xs := as.map V.ref) (fun i H11 => ∃ bs : List Addr, Same H10 H11 ∧ H11 pl = some (.lst (bs.map V.ref)) ∧ Tups (pairAt es) H11 bs (rs.take i)) ⟨[], same_new (Same.refl _) npl, upd_same, by rw [List.take_zero]; exact Tups.nil⟩ (fun i H11 _ ⟨_, g, _⟩ => SqL.of (g _ _ hl10)) ?_ ?_
        · rintro i z H11 hi ⟨bs, sm11, hD11, tb11⟩
          obtain ⟨c0, hc, rfl⟩ := at_ref hi
          have il : i < rs.length := by rw [← tr10.1]; exact (List.getElem?_eq_some_iff.mp hc).1
          obtain ⟨r, hr'⟩ := get_some il
          obtain ⟨c', hc1, hc2⟩ := tr10.2 i r hr'
          rw [hc] at hc1
          cases hc1
          have hrm := List.mem_of_getElem? hr'
          obtain ⟨_, u, _, wy⟩ := RO.sound r hrm
          refine ⟨rfl, _, rfl, _, rfl, q, c0, n, es, r, rfl, hP10.same sm11, sm11 _ _ hc2, way_lt wy, by have := len4 r hrm; omega, fun H12 t sm12 ht => ?_⟩
          have hD12 := sm12 _ _ hD11
          have st := tups_upd (ys := bs.map V.ref ++ [V.ref t]) hD12
          refine ⟨_, hD12, small_line (by rw [List.length_map, tb11.1, List.length_take]; omega), bs ++ [t], same_upd (sm11.trans sm12) npl, by rw [List.map_append]; exact upd_same, ?_⟩
          rw [take_snoc hr']
          exact Tups.snoc (tb11.keep fun x d e => st _ _ (sm12 _ _ e)) (st _ _ ht)
        rintro H11 ⟨bs, sm11, hD11, tb11⟩
        rw [List.length_map, tr10.1, List.take_length] at tb11
        -- the net
        refine ⟨_, rfl, _, rfl, m, n, es, s, rfl, hM10.same sm11, ok, hsr, fun H12 t w x y sm12 ht hn h63 => ?_⟩
        have hD12 := sm12 _ _ hD11
        have tb12 := pairs_same tb11 sm12
        have hM12 := (hM10.same sm11).same sm12
        have sm812 : Same H8 H12 := (sm810.trans sm11).trans sm12
        have hemp : w = 0 ↔ rs = [] := net_empty CL hn RO t1
        clear hD11 tb11
        refine ⟨_, rfl, t, w, x, y, rfl, ht, hn.w0, hn.y0, hn.xy, fun H13 sm13 => ⟨_, rfl, iteF ?_⟩⟩
        refine ⟨_, rfl, Nat.zero_le _, fun e1 ne1 => ?_⟩
        have sm14 := same_new (o := .tup []) sm13 ne1
        have he1 : (upd H13 e1 (.tup [])) e1 = some (.tup []) := upd_same
        generalize upd H13 e1 (.tup []) = H14 at sm14 he1
        refine ⟨_, _, told_dp (ht.same sm14), .tup (SqT.of he1) .nil, told_shaped w x y, rfl, _, rfl, Nat.zero_le _, fun e2 ne2 => ?_⟩
        have sm15 := same_new (o := .lst []) sm14 ne2
        have he2 : (upd H14 e2 (.lst [])) e2 = some (.lst []) := upd_same
        generalize upd H14 e2 (.lst []) = H15 at sm15 he2
        have hD15 := sm15 _ _ hD12
        have tb15 := pairs_same tb12 sm15
        refine ⟨_, _, .lst (SqL.of hD15) (pairs_dp tb15), .lst (SqL.of he2) .nil, pairs_shaped, rfl, rfl, _, rfl, ?_⟩
        rw [told_eqv, pairs_eqv, show decide (w = 0) = decide (rs = []) from decide_eq_decide.mpr hemp, dec_bl, beq_self_eq_true]
        refine iteF ?_
        -- all are in it
        refine ⟨_, rfl, pl, rfl, ⟨_, SqL.of hD15⟩, fun D2 nD2 => lc_list (K := K) (a := pl) (xs := bs.map V.ref) (fun i H16 => Same H15 H16 ∧ H16 D2 = some (.lst ((List.replicate i true).map V.bl))) ⟨same_new (Same.refl _) nD2, upd_same⟩ (fun i H16 _ g => SqL.of (g.1 _ _ hD15)) ?_ ?_⟩
        · rintro i z H16 hi ⟨sm16, hD16⟩
          obtain ⟨c0, hc, rfl⟩ := at_ref hi
          have il : i < rs.length := by rw [← tb12.1]; exact (List.getElem?_eq_some_iff.mp hc).1
          obtain ⟨r, hr'⟩ := get_some il
          obtain ⟨c', hc1, hc2⟩ := tb15.2 i r hr'
          rw [hc] at hc1
          cases hc1
          have hrm := List.mem_of_getElem? hr'
          obtain ⟨⟨q1, q2⟩, q3, q4⟩ := sums_in ok (len4 r hrm)
          have w0 := hn.w0
          have hw : 0 < w := by
            have : w ≠ 0 := fun z => by rw [hemp.mp z] at hrm; cases hrm
            omega
          refine ⟨rfl, _, rfl, _, rfl, t, c0, w, x, y, sT es r, sP es r, rfl, ht.same (sm15.trans sm16), hw, h63, hn.y0, sm16 _ _ hc2, by omega, by omega, net_in CL hn RO hrm, fun H17 sm17 => ⟨_, sm17 _ _ hD16, small_line (by rw [List.length_map, List.length_replicate]; omega), same_upd (sm16.trans sm17) nD2, ?_⟩⟩
          rw [upd_same, List.replicate_succ', List.map_append]
          rfl
        rintro H17 ⟨sm17, hD17⟩
        refine ⟨D2, _, rfl, SqL.of hD17, ?_⟩
        rw [bl_all]
        refine ⟨_, rfl, iteF ?_⟩
        have sm1217 := sm15.trans sm17
        have sm817 := sm812.trans sm1217
        have hDf := sm1217 _ _ hD12
        have tbf := pairs_same tb12 sm1217
        have htf := ht.same sm1217
        have hMf := hM12.same sm1217
        clear hD12 tb12 hD15 tb15 hD17
        -- tries, cross
        refine ⟨_, rfl, pl, rfl, ⟨_, SqL.of hDf⟩, for_list (K := K) (a := pl) (xs := bs.map V.ref)
          (fun i σ H18 => ∃ (tr cx : Int) (v10 v11 : Option V), σ = [some (.ref a), some (.ref pt), some (.ref q), v3, some (.ref m), some (.int s), some (.ref pl), some (.ref t), some (.int tr), some (.int cx), v10, v11, v12, none, none, none] ∧ Same H17 H18 ∧ Com tr (tries es rs i) ∧ Com cx (crossed es rs i))
          ⟨0, 0, v10, v11, rfl, Same.refl _, Com.zero (fun c r hr => by simp at hr), Com.zero (fun c r hr => by simp at hr)⟩ (fun i σ H18 _ ⟨_, _, _, _, _, g, _⟩ => SqL.of (g _ _ hDf)) ?_ ?_⟩
        · rintro i z σ H18 hi ⟨tr, cx, v10, v11, rfl, sm18, ct, cc⟩
          obtain ⟨c0, hc, rfl⟩ := at_ref hi
          have il : i < rs.length := by rw [← tbf.1]; exact (List.getElem?_eq_some_iff.mp hc).1
          obtain ⟨r, hr'⟩ := get_some il
          obtain ⟨c', hc1, hc2⟩ := tbf.2 i r hr'
          rw [hc] at hc1
          cases hc1
          have hrm := List.mem_of_getElem? hr'
          obtain ⟨⟨q1, q2⟩, q3, q4⟩ := sums_in ok (len4 r hrm)
          refine ⟨_, rfl, _, rfl, c0, _, _, _, rfl, rfl, SqT.of (sm18 _ _ hc2), pat0, tr, sT es r, rfl, by omega, by omega, ?_⟩
          refine ⟨_, rfl, pl, rfl, ⟨_, SqL.of (sm18 _ _ hDf)⟩, for_list (K := K) (a := pl) (xs := bs.map V.ref)
            (fun j σ H19 => ∃ (cx : Int) (v11 : Option V), σ = [some (.ref a), some (.ref pt), some (.ref q), v3, some (.ref m), some (.int s), some (.ref pl), some (.ref t), some (.int ((Int.gcd tr (sT es r) : Nat) : Int)), some (.int cx), some (.ref c0), v11, v12, none, none, none] ∧ Same H17 H19 ∧ Com cx (fun d => crossed es rs i d ∧ ∀ r' ∈ rs.take j, d ∣ cr es r r'))
            ⟨cx, v11, rfl, sm18, cc.as fun d => by simp⟩ (fun j σ H19 _ ⟨_, _, _, g, _⟩ => SqL.of (g _ _ hDf)) ?_ ?_⟩
          · rintro j z σ H19 hj ⟨cx, v11, rfl, sm19, cc⟩
            obtain ⟨c1, hd, rfl⟩ := at_ref hj
            have jl : j < rs.length := by rw [← tbf.1]; exact (List.getElem?_eq_some_iff.mp hd).1
            obtain ⟨r', hr2⟩ := get_some jl
            obtain ⟨c', hd1, hd2⟩ := tbf.2 j r' hr2
            rw [hd] at hd1
            cases hd1
            have hrm' := List.mem_of_getElem? hr2
            obtain ⟨⟨q1', q2'⟩, q3', q4'⟩ := sums_in ok (len4 r' hrm')
            obtain ⟨b1, b2⟩ := cr_in ok (len4 r hrm) (len4 r' hrm')
            have hA := SqT.of (K := K) (sm19 _ _ hc2)
            have hB := SqT.of (K := K) (sm19 _ _ hd2)
            refine ⟨_, rfl, _, rfl, c0, _, _, _, rfl, rfl, hA, pat0, _, rfl, c1, _, _, _, rfl, rfl, hB, pat1, _, _, rfl, rfl, .inl ⟨by omega, by omega⟩, ?_⟩
            refine ⟨_, rfl, c0, _, _, _, rfl, rfl, hA, pat1, _, rfl, c1, _, _, _, rfl, rfl, hB, pat0, _, _, rfl, rfl, .inl ⟨by omega, by omega⟩, ?_⟩
            refine ⟨_, _, rfl, rfl, cx, cr es r r', rfl, b1, b2, ?_⟩
            refine ⟨_, _, rfl, sm19, cc.more fun d => ?_⟩
            show (crossed es rs i d ∧ ∀ r'' ∈ rs.take (j + 1), d ∣ cr es r r'') ↔ _
            rw [take_snoc hr2, forall_snoc, and_assoc]
          · rintro σ H19 ⟨cx, v11, rfl, sm19, cc⟩
            rw [List.length_map, tbf.1, List.take_length] at cc
            exact ⟨_, cx, _, _, rfl, sm19, ct.more fun d => tries_succ hr' d, cc.as fun d => crossed_succ hr' d⟩
        rintro σ H18 ⟨tr, cx, v10, v11, rfl, sm18, ct, cc⟩
        rw [List.length_map, tbf.1] at ct cc
        have wtr : w = tr := net_tries CL hn RO ct.nn fun c => by rw [ct.iff, tries, List.take_length]
        have area : ∀ {w x y : Int}, NetOk es (Knot es s) w x y → w * y = cx := fun hn => net_area CL hn RO cc.nn fun c => by
          rw [cc.iff, crossed, List.take_length]
          exact Iff.rfl
        have wy := area hn
        have sm818 := sm817.trans sm18
        have sm7e := sm8.trans sm818
        have ht18 := htf.same sm18
        have hM18 := hMf.same sm18
        dsimp only [gName]
        refine seq_join (fun σ H20 => σ = [some (.ref a), some (.ref pt), some (.ref q), v3, some (.ref m), some (.int s), some (.ref pl), some (.ref t), some (.int tr), some (.int cx), v10, v11, v12, none, none, none] ∧ Same H18 H20) ?_ (fun J2 => ?_)
        · rintro σ H20 ⟨rfl, sm20⟩
          show tAsg _ _ _ _ _
          dsimp only [tAsg, tC, gName]
          refine seq_join (fun σ H21 => σ = [some (.ref a), some (.ref pt), some (.ref q), v3, some (.ref m), some (.int s), some (.ref pl), some (.ref t), some (.int tr), some (.int cx), v10, v11, some (.int (w * y)), none, none, none] ∧ Same H18 H21) ?_ (fun J3 => ?_)
          · rintro σ H21 ⟨rfl, sm21⟩
            refine ⟨_, rfl, _, rfl, m, n, es, s, rfl, hM18.same sm21, ok, hsr, fun H22 w2 x2 y2 sm22 hn2 => ⟨_, rfl, rfl, _, rfl, ?_⟩⟩
            rw [dec_int, area hn2, ← wy, beq_self_eq_true]
            refine iteF ⟨_, rfl, _, rfl, rfl, _, rfl, ?_⟩
            rw [dec_int, wy, beq_self_eq_true]
            exact iteF ⟨_, _, _, _, _, _, _, _, rfl, (sm7e.trans sm21).trans sm22⟩
          · have ht20 := ht18.same sm20
            rcases ht20 with ⟨a1, b1⟩ | ⟨a1, b1, p1, c1, d1⟩ | ⟨a1, b1, p1, p2, c1, d1, e1⟩
            · refine ⟨_, rfl, t, _, rfl, .inr (SqT.of b1), rfl, _, rfl, iteF (J3 _ _ ⟨?_, sm20⟩)⟩
              rw [a1, Int.zero_mul]
              rfl
            · refine ⟨_, rfl, t, _, rfl, .inr (SqT.of c1), rfl, _, rfl, iteF (J3 _ _ ⟨?_, sm20⟩)⟩
              rw [b1, Int.mul_zero]
              rfl
            · refine ⟨_, rfl, t, _, rfl, .inr (SqT.of c1), rfl, _, rfl, iteT ?_⟩
              have w0 := hn.w0
              exact ⟨_, rfl, t, _, _, _, rfl, rfl, SqT.of c1, pat0, p1, _, _, _, rfl, rfl, SqT.of d1, pat0, _, rfl, t, _, _, _, rfl, rfl, SqT.of c1, pat1, p2, _, _, _, rfl, rfl, SqT.of e1, pat1, _, _, rfl, rfl, .inl ⟨by omega, by omega⟩, J3 _ _ ⟨rfl, sm20⟩⟩
        · refine ⟨_, rfl, Nat.zero_le _, fun e3 ne3 => ?_⟩
          have sm20 := same_new (o := .lst []) (Same.refl H18) ne3
          have he3 : (upd H18 e3 (.lst [])) e3 = some (.lst []) := upd_same
          generalize upd H18 e3 (.lst []) = H20 at sm20 he3
          refine ⟨_, _, .lst (SqL.of (sm20 _ _ (sm18 _ _ hDf))) (pairs_dp (pairs_same tbf (sm18.trans sm20))), .lst (SqL.of he3) .nil, pairs_shaped, rfl, _, rfl, ?_⟩
          rw [pairs_eqv]
          by_cases hrs : rs = []
          · rw [decide_eq_true hrs]
            exact iteF (iteF (J2 _ _ ⟨rfl, sm20⟩))
          · rw [decide_eq_false hrs]
            refine iteT ?_
            rcases ht18.same sm20 with ⟨a1, b1⟩ | ⟨a1, b1, p1, c1, d1⟩ | ⟨a1, b1, p1, p2, c1, d1, e1⟩
            · exact absurd (hemp.mp a1) hrs
            · refine ⟨_, rfl, t, _, _, _, rfl, rfl, SqT.of c1, oat0, p1, _, _, _, rfl, rfl, SqT.of d1, pat0, _, rfl, rfl, _, rfl, ?_⟩
              rw [dec_int, wtr, beq_self_eq_true]
              exact iteF (J2 _ _ ⟨rfl, sm20⟩)
            · refine ⟨_, rfl, t, _, _, _, rfl, rfl, SqT.of c1, pat0, p1, _, _, _, rfl, rfl, SqT.of d1, pat0, _, rfl, rfl, _, rfl, ?_⟩
              rw [dec_int, wtr, beq_self_eq_true]
              exact iteF (J2 _ _ ⟨rfl, sm20⟩)
      · rintro σ H8 ⟨v5, v6, v7, v8, v9, v10, v11, v12, rfl, sm8⟩
        exact k _
    · -- points that are multiples of tries
      obtain ⟨le, hq, as, a1, a2, a3⟩ := id hP0
      refine ⟨_, rfl, pt, ga, sa, 4, rfl, pot2, by omega, by omega, fun H3 r but3 pot3 r0 r4 => ⟨rfl, _, rfl, ite2 (fun _ => ?_) (fun _ => J _ _ ⟨q0, es0, none, rfl, hP0.but pot2 but3, ok0⟩)⟩⟩
      refine ⟨_, rfl, pt, ga, sa, 5, rfl, pot3, by omega, by omega, fun H4 r2 but4 pot4 p0 p5 => ⟨_, _, rfl, rfl, ?_⟩⟩
      obtain ⟨le', hq4, as, a1, a2, a3⟩ := id ((hP0.but pot2 but3).but pot3 but4)
      obtain ⟨tm, htm⟩ : ∃ tm, r2 - 2 = tm := ⟨_, rfl⟩
      refine ⟨_, rfl, q0, _, _, _, rfl, rfl, SqT.of hq4, pat0, _, rfl, q0, _, _, _, rfl, rfl, SqT.of hq4, pat1, le', rfl, ⟨_, SqT.of a1⟩, fun D nD => lc_tup (K := K) (a := le') (xs := as.map V.ref)
        (fun i H5 => ∃ bs : List Addr, Same H4 H5 ∧ H5 D = some (.lst (bs.map V.ref)) ∧ Tups evAt H5 bs ((es0.map (mulEv tm)).take i)) ⟨[], same_new (Same.refl _) nD, upd_same, by rw [List.take_zero]; exact Tups.nil⟩ (fun i H5 _ ⟨_, g, _⟩ => SqT.of (g _ _ a1)) ?_ ?_⟩
      · rintro i z H5 hi ⟨bs, sm5, hD5, tb5⟩
        obtain ⟨c0, hc, rfl⟩ := at_ref hi
        have il : i < es0.length := by rw [← a2]; exact (List.getElem?_eq_some_iff.mp hc).1
        obtain ⟨e, he⟩ := get_some il
        obtain ⟨c', hc1, hc2⟩ := a3 i e he
        rw [hc] at hc1
        cases hc1
        have o := ok0.at he
        have o1 := o.t1
        have o3 := o.t3
        have l6 := ok0.len
        refine ⟨rfl, _, rfl, 3, rfl, c0, _, rfl, SqT.of (sm5 _ _ hc2), fun hw => absurd hw.2 (by show ¬ (HT.sIx 4 4 (some 3) = 4); decide), fun _ p np => ?_⟩
        have sm6 := same_new (o := .tup (cutV (evV e) none (some 3))) (Same.refl H5) np
        have hp : (upd H5 p (.tup (cutV (evV e) none (some 3)))) p = some (.tup [.int e.b, .int e.a, .int e.t]) := upd_same
        generalize upd H5 p (.tup (cutV (evV e) none (some 3))) = H6 at sm6 hp
        refine ⟨_, rfl, _, rfl, c0, _, _, _, rfl, rfl, SqT.of (sm6 _ _ (sm5 _ _ hc2)), at2, _, _, rfl, rfl, .inl ⟨by omega, by omega⟩, (by show 1 ≤ sizeLine; decide), fun p2 np2 => ?_⟩
        have sm7 := same_new (o := .tup [.int (tm * e.t)]) sm6 np2
        rw [htm]
        refine catA_any (same_new (Same.refl _) np2 _ _ hp) upd_same (by simp) (by show 3 + 1 ≤ 1000; decide) fun p3 H8 s8 hp3 => ?_
        have hD8 := s8 _ _ (sm7 _ _ hD5)
        have st := tups_upd (ys := bs.map V.ref ++ [V.ref p3]) hD8
        refine ⟨_, hD8, small_line (by rw [List.length_map, tb5.1, List.length_take, List.length_map]; omega), bs ++ [p3], same_upd ((sm5.trans sm7).trans s8) nD, by rw [List.map_append]; exact upd_same, ?_⟩
        rw [take_snoc (show (es0.map (mulEv tm))[i]? = some (mulEv tm e) by rw [List.getElem?_map, he]; rfl)]
        exact Tups.snoc (tb5.keep fun x d e => st _ _ (s8 _ _ (sm7 _ _ e))) (st _ _ hp3)
      · rintro H5 ⟨bs, sm5, hD5, tb5⟩
        rw [List.length_map, a2, List.take_of_length_le (by rw [List.length_map]; exact Nat.le_refl _)] at tb5
        refine ⟨D, _, rfl, .inl ⟨SqL.of hD5, fun l nl => ⟨(by show 2 ≤ sizeLine; decide), fun q' nq' => J _ _ ⟨q', es0.map (mulEv tm), _, rfl, ⟨l, upd_same, ?_⟩, mulEv_ok ok0 (by omega) (by omega)⟩⟩⟩⟩
        have s1 := same_new (o := .tup (bs.map V.ref)) (Same.refl H5) nl
        have s2 := same_new (o := .tup [.int n, .ref l]) s1 nq'
        exact evs_of (same_new (Same.refl _) nq' _ _ upd_same) (tb5.keep fun x d e => s2 _ _ e)
end
end Nv

/-! What the top has written. -/
namespace Nv
open PySem L2
theorem all_mk {l : PySem.W.OpenLaw} {w : World} {K : PySem.W.Frag} {h : Heap} {mg : Str → Option Value} {fa C f0 f1 f2 f3 f4 f5 f6 f7 f8 f9 f10 f11 f12 f13 f14 f15 f16 f17 f18 f19 f20 f21 f22 f23 f24 f25 f26 f27 f28 fI fM fL : Addr} (X : K.In h) (G : h.Ns mainGlobals mg) (hfa : mg "law" = some (.ref fa))
    {od0 an0 od1 an1 od2 an2 od3 an3 od4 an4 od5 an5 od6 an6 od7 an7 od8 an8 od9 an9 od10 an10 od11 an11 od12 an12 od13 an13 od14 an14 od15 an15 od16 an16 od17 an17 od18 an18 od19 an19 od20 an20 od21 an21 od22 an22 od23 an23 od24 an24 od25 an25 od26 an26 od27 an27 od28 an28 odI anI odM anM odL anL : Option Addr} {sl0 sl1 sl2 sl3 sl4 sl5 sl6 sl7 sl8 sl9 sl10 sl11 sl12 sl13 sl14 sl15 sl16 sl17 sl18 sl19 sl20 sl21 sl22 sl23 sl24 sl25 sl26 sl27 sl28 slI slM slL : Array (Option Value)} {oc0 kV0 dc0 pm0 cd0 ct0 oc1 kV1 dc1 pm1 cd1 ct1 oc2 kV2 dc2 pm2 cd2 ct2 oc3 kV3 dc3 pm3 cd3 ct3 oc4 kV4 dc4 pm4 cd4 ct4 oc5 kV5 dc5 pm5 cd5 ct5 oc6 kV6 dc6 pm6 cd6 ct6 oc7 kV7 dc7 pm7 cd7 ct7 oc8 kV8 dc8 pm8 cd8 ct8 oc9 kV9 dc9 pm9 cd9 ct9 oc10 kV10 dc10 pm10 cd10 ct10 oc11 kV11 dc11 pm11 cd11 ct11 oc12 kV12 dc12 pm12 cd12 ct12 oc13 kV13 dc13 pm13 cd13 ct13 oc14 kV14 dc14 pm14 cd14 ct14 oc15 kV15 dc15 pm15 cd15 ct15 oc16 kV16 dc16 pm16 cd16 ct16 oc17 kV17 dc17 pm17 cd17 ct17 oc18 kV18 dc18 pm18 cd18 ct18 oc19 kV19 dc19 pm19 cd19 ct19 oc20 kV20 dc20 pm20 cd20 ct20 oc21 kV21 dc21 pm21 cd21 ct21 oc22 kV22 dc22 pm22 cd22 ct22 oc23 kV23 dc23 pm23 cd23 ct23 oc24 kV24 dc24 pm24 cd24 ct24 oc25 kV25 dc25 pm25 cd25 ct25 oc26 kV26 dc26 pm26 cd26 ct26 oc27 kV27 dc27 pm27 cd27 ct27 oc28 kV28 dc28 pm28 cd28 ct28 ocI kVI dcI pmI cdI ctI ocM kVM dcM pmM cdM ctM ocL kVL dcL pmL cdL ctL : Value} {t0 t1 t2 t3 : _}
    (a0 : PySem.W.nsIn K mainGlobals "is_integer" = some (some (.ref f0))) (l0 : K.lookup f0 = some ⟨oc0, od0, .func (PySem.W.fnOf "is_integer" "is_integer" (defArgs sIsInteger) (defBody sIsInteger) (defScope sIsInteger) .none kV0 dc0 pm0 an0 cd0 ct0), sl0⟩) (c0 : PySem.W.codeIn K cd0 "is_integer" = true) (k0 : PySem.W.keepIn K (.ref f0) = true)
    (a1 : PySem.W.nsIn K mainGlobals "is_within" = some (some (.ref f1))) (l1 : K.lookup f1 = some ⟨oc1, od1, .func (PySem.W.fnOf "is_within" "is_within" (defArgs sIsWithin) (defBody sIsWithin) (defScope sIsWithin) .none kV1 dc1 pm1 an1 cd1 ct1), sl1⟩) (c1 : PySem.W.codeIn K cd1 "is_within" = true) (k1 : PySem.W.keepIn K (.ref f1) = true)
    (a2 : PySem.W.nsIn K mainGlobals "common_divisor" = some (some (.ref f2))) (l2 : K.lookup f2 = some ⟨oc2, od2, .func (PySem.W.fnOf "common_divisor" "common_divisor" (defArgs sCommon) (defBody sCommon) (defScope sCommon) .none kV2 dc2 pm2 an2 cd2 ct2), sl2⟩) (c2 : PySem.W.codeIn K cd2 "common_divisor" = true) (k2 : PySem.W.keepIn K (.ref f2) = true)
    (a3 : PySem.W.nsIn K mainGlobals "is_event" = some (some (.ref f3))) (l3 : K.lookup f3 = some ⟨oc3, od3, .func (PySem.W.fnOf "is_event" "is_event" (defArgs sIsEvent) (defBody sIsEvent) (defScope sIsEvent) .none kV3 dc3 pm3 an3 cd3 ct3), sl3⟩) (c3 : PySem.W.codeIn K cd3 "is_event" = true) (k3 : PySem.W.keepIn K (.ref f3) = true)
    (a4 : PySem.W.nsIn K mainGlobals "step_at" = some (some (.ref f4))) (l4 : K.lookup f4 = some ⟨oc4, od4, .func (PySem.W.fnOf "step_at" "step_at" (defArgs sStepAt) (defBody sStepAt) (defScope sStepAt) .none kV4 dc4 pm4 an4 cd4 ct4), sl4⟩) (c4 : PySem.W.codeIn K cd4 "step_at" = true) (k4 : PySem.W.keepIn K (.ref f4) = true)
    (a5 : PySem.W.nsIn K mainGlobals "flooded" = some (some (.ref f5))) (l5 : K.lookup f5 = some ⟨oc5, od5, .func (PySem.W.fnOf "flooded" "flooded" (defArgs sFlooded) (defBody sFlooded) (defScope sFlooded) .none kV5 dc5 pm5 an5 cd5 ct5), sl5⟩) (c5 : PySem.W.codeIn K cd5 "flooded" = true) (k5 : PySem.W.keepIn K (.ref f5) = true)
    (a6 : PySem.W.nsIn K mainGlobals "reached_of" = some (some (.ref f6))) (l6 : K.lookup f6 = some ⟨oc6, od6, .func (PySem.W.fnOf "reached_of" "reached_of" (defArgs sReached) (defBody sReached) (defScope sReached) .none kV6 dc6 pm6 an6 cd6 ct6), sl6⟩) (c6 : PySem.W.codeIn K cd6 "reached_of" = true) (k6 : PySem.W.keepIn K (.ref f6) = true)
    (a7 : PySem.W.nsIn K mainGlobals "knots_of" = some (some (.ref f7))) (l7 : K.lookup f7 = some ⟨oc7, od7, .func (PySem.W.fnOf "knots_of" "knots_of" (defArgs sKnots) (defBody sKnots) (defScope sKnots) .none kV7 dc7 pm7 an7 cd7 ct7), sl7⟩) (c7 : PySem.W.codeIn K cd7 "knots_of" = true) (k7 : PySem.W.keepIn K (.ref f7) = true)
    (a8 : PySem.W.nsIn K mainGlobals "knot_of" = some (some (.ref f8))) (l8 : K.lookup f8 = some ⟨oc8, od8, .func (PySem.W.fnOf "knot_of" "knot_of" (defArgs sKnotOf) (defBody sKnotOf) (defScope sKnotOf) .none kV8 dc8 pm8 an8 cd8 ct8), sl8⟩) (c8 : PySem.W.codeIn K cd8 "knot_of" = true) (k8 : PySem.W.keepIn K (.ref f8) = true)
    (a9 : PySem.W.nsIn K mainGlobals "check_standing" = some (some (.ref f9))) (l9 : K.lookup f9 = some ⟨oc9, od9, .func (PySem.W.fnOf "check_standing" "check_standing" (defArgs sCheckStanding) (defBody sCheckStanding) (defScope sCheckStanding) .none kV9 dc9 pm9 an9 cd9 ct9), sl9⟩) (c9 : PySem.W.codeIn K cd9 "check_standing" = true) (k9 : PySem.W.keepIn K (.ref f9) = true)
    (a10 : PySem.W.nsIn K mainGlobals "inner_events" = some (some (.ref f10))) (l10 : K.lookup f10 = some ⟨oc10, od10, .func (PySem.W.fnOf "inner_events" "inner_events" (defArgs sInner) (defBody sInner) (defScope sInner) .none kV10 dc10 pm10 an10 cd10 ct10), sl10⟩) (c10 : PySem.W.codeIn K cd10 "inner_events" = true) (k10 : PySem.W.keepIn K (.ref f10) = true)
    (a11 : PySem.W.nsIn K mainGlobals "heights" = some (some (.ref f11))) (l11 : K.lookup f11 = some ⟨oc11, od11, .func (PySem.W.fnOf "heights" "heights" (defArgs sHeights) (defBody sHeights) (defScope sHeights) .none kV11 dc11 pm11 an11 cd11 ct11), sl11⟩) (c11 : PySem.W.codeIn K cd11 "heights" = true) (k11 : PySem.W.keepIn K (.ref f11) = true)
    (a12 : PySem.W.nsIn K mainGlobals "differences" = some (some (.ref f12))) (l12 : K.lookup f12 = some ⟨oc12, od12, .func (PySem.W.fnOf "differences" "differences" (defArgs sDiff) (defBody sDiff) (defScope sDiff) .none kV12 dc12 pm12 an12 cd12 ct12), sl12⟩) (c12 : PySem.W.codeIn K cd12 "differences" = true) (k12 : PySem.W.keepIn K (.ref f12) = true)
    (a13 : PySem.W.nsIn K mainGlobals "taken_in" = some (some (.ref f13))) (l13 : K.lookup f13 = some ⟨oc13, od13, .func (PySem.W.fnOf "taken_in" "taken_in" (defArgs sTakenIn) (defBody sTakenIn) (defScope sTakenIn) .none kV13 dc13 pm13 an13 cd13 ct13), sl13⟩) (c13 : PySem.W.codeIn K cd13 "taken_in" = true) (k13 : PySem.W.keepIn K (.ref f13) = true)
    (a14 : PySem.W.nsIn K mainGlobals "net_of" = some (some (.ref f14))) (l14 : K.lookup f14 = some ⟨oc14, od14, .func (PySem.W.fnOf "net_of" "net_of" (defArgs sNetOf) (defBody sNetOf) (defScope sNetOf) .none kV14 dc14 pm14 an14 cd14 ct14), sl14⟩) (c14 : PySem.W.codeIn K cd14 "net_of" = true) (k14 : PySem.W.keepIn K (.ref f14) = true)
    (a15 : PySem.W.nsIn K mainGlobals "net" = some (some (.ref f15))) (l15 : K.lookup f15 = some ⟨oc15, od15, .func (PySem.W.fnOf "net" "net" (defArgs sNet) (defBody sNet) (defScope sNet) .none kV15 dc15 pm15 an15 cd15 ct15), sl15⟩) (c15 : PySem.W.codeIn K cd15 "net" = true) (k15 : PySem.W.keepIn K (.ref f15) = true)
    (a16 : PySem.W.nsIn K mainGlobals "area" = some (some (.ref f16))) (l16 : K.lookup f16 = some ⟨oc16, od16, .func (PySem.W.fnOf "area" "area" (defArgs sArea) (defBody sArea) (defScope sArea) .none kV16 dc16 pm16 an16 cd16 ct16), sl16⟩) (c16 : PySem.W.codeIn K cd16 "area" = true) (k16 : PySem.W.keepIn K (.ref f16) = true)
    (a17 : PySem.W.nsIn K mainGlobals "_law_pot" = some (some (.ref f17))) (l17 : K.lookup f17 = some ⟨oc17, od17, .func (PySem.W.fnOf "_law_pot" "_law_pot" (defArgs sPot) (defBody sPot) (defScope sPot) .none kV17 dc17 pm17 an17 cd17 ct17), sl17⟩) (c17 : PySem.W.codeIn K cd17 "_law_pot" = true) (k17 : PySem.W.keepIn K (.ref f17) = true)
    (a18 : PySem.W.nsIn K mainGlobals "_law_draw" = some (some (.ref f18))) (l18 : K.lookup f18 = some ⟨oc18, od18, .func (PySem.W.fnOf "_law_draw" "_law_draw" (defArgs sDraw) (defBody sDraw) (defScope sDraw) .none kV18 dc18 pm18 an18 cd18 ct18), sl18⟩) (c18 : PySem.W.codeIn K cd18 "_law_draw" = true) (k18 : PySem.W.keepIn K (.ref f18) = true)
    (a19 : PySem.W.nsIn K mainGlobals "_law_parts" = some (some (.ref f19))) (l19 : K.lookup f19 = some ⟨oc19, od19, .func (PySem.W.fnOf "_law_parts" "_law_parts" (defArgs sParts) (defBody sParts) (defScope sParts) .none kV19 dc19 pm19 an19 cd19 ct19), sl19⟩) (c19 : PySem.W.codeIn K cd19 "_law_parts" = true) (k19 : PySem.W.keepIn K (.ref f19) = true)
    (a20 : PySem.W.nsIn K mainGlobals "_law_gcd" = some (some (.ref f20))) (l20 : K.lookup f20 = some ⟨oc20, od20, .func (PySem.W.fnOf "_law_gcd" "_law_gcd" (defArgs sGcd) (defBody sGcd) (defScope sGcd) .none kV20 dc20 pm20 an20 cd20 ct20), sl20⟩) (c20 : PySem.W.codeIn K cd20 "_law_gcd" = true) (k20 : PySem.W.keepIn K (.ref f20) = true)
    (a21 : PySem.W.nsIn K mainGlobals "_law_out" = some (some (.ref f21))) (l21 : K.lookup f21 = some ⟨oc21, od21, .func (PySem.W.fnOf "_law_out" "_law_out" (defArgs sOut) (defBody sOut) (defScope sOut) .none kV21 dc21 pm21 an21 cd21 ct21), sl21⟩) (c21 : PySem.W.codeIn K cd21 "_law_out" = true) (k21 : PySem.W.keepIn K (.ref f21) = true)
    (a22 : PySem.W.nsIn K mainGlobals "_law_sums" = some (some (.ref f22))) (l22 : K.lookup f22 = some ⟨oc22, od22, .func (PySem.W.fnOf "_law_sums" "_law_sums" (defArgs sSums) (defBody sSums) (defScope sSums) .none kV22 dc22 pm22 an22 cd22 ct22), sl22⟩) (c22 : PySem.W.codeIn K cd22 "_law_sums" = true) (k22 : PySem.W.keepIn K (.ref f22) = true)
    (a23 : PySem.W.nsIn K mainGlobals "_law_reached" = some (some (.ref f23))) (l23 : K.lookup f23 = some ⟨oc23, od23, .func (PySem.W.fnOf "_law_reached" "_law_reached" (defArgs sLReached) (defBody sLReached) (defScope sLReached) .none kV23 dc23 pm23 an23 cd23 ct23), sl23⟩) (c23 : PySem.W.codeIn K cd23 "_law_reached" = true) (k23 : PySem.W.keepIn K (.ref f23) = true)
    (a24 : PySem.W.nsIn K mainGlobals "_law_leads" = some (some (.ref f24))) (l24 : K.lookup f24 = some ⟨oc24, od24, .func (PySem.W.fnOf "_law_leads" "_law_leads" (defArgs sLeads) (defBody sLeads) (defScope sLeads) .none kV24 dc24 pm24 an24 cd24 ct24), sl24⟩) (c24 : PySem.W.codeIn K cd24 "_law_leads" = true) (k24 : PySem.W.keepIn K (.ref f24) = true)
    (a25 : PySem.W.nsIn K mainGlobals "_law_knot" = some (some (.ref f25))) (l25 : K.lookup f25 = some ⟨oc25, od25, .func (PySem.W.fnOf "_law_knot" "_law_knot" (defArgs sLKnot) (defBody sLKnot) (defScope sLKnot) .none kV25 dc25 pm25 an25 cd25 ct25), sl25⟩) (c25 : PySem.W.codeIn K cd25 "_law_knot" = true) (k25 : PySem.W.keepIn K (.ref f25) = true)
    (a26 : PySem.W.nsIn K mainGlobals "_law_rings" = some (some (.ref f26))) (l26 : K.lookup f26 = some ⟨oc26, od26, .func (PySem.W.fnOf "_law_rings" "_law_rings" (defArgs sRings) (defBody sRings) (defScope sRings) .none kV26 dc26 pm26 an26 cd26 ct26), sl26⟩) (c26 : PySem.W.codeIn K cd26 "_law_rings" = true) (k26 : PySem.W.keepIn K (.ref f26) = true)
    (a27 : PySem.W.nsIn K mainGlobals "_law_is_base" = some (some (.ref f27))) (l27 : K.lookup f27 = some ⟨oc27, od27, .func (PySem.W.fnOf "_law_is_base" "_law_is_base" (defArgs sIsBase) (defBody sIsBase) (defScope sIsBase) .none kV27 dc27 pm27 an27 cd27 ct27), sl27⟩) (c27 : PySem.W.codeIn K cd27 "_law_is_base" = true) (k27 : PySem.W.keepIn K (.ref f27) = true)
    (a28 : PySem.W.nsIn K mainGlobals "_law_is_in" = some (some (.ref f28))) (l28 : K.lookup f28 = some ⟨oc28, od28, .func (PySem.W.fnOf "_law_is_in" "_law_is_in" (defArgs sIsIn) (defBody sIsIn) (defScope sIsIn) .none kV28 dc28 pm28 an28 cd28 ct28), sl28⟩) (c28 : PySem.W.codeIn K cd28 "_law_is_in" = true) (k28 : PySem.W.keepIn K (.ref f28) = true)
    (aI : PySem.W.findIn K (.ref C) "__init__" = some (some (.ref fI))) (iI : PySem.W.isFn K (.ref fI) = true) (lI : K.lookup fI = some ⟨ocI, odI, .func (PySem.W.fnOf "__init__" "Machine.__init__" (defArgs sInit) (defBody sInit) (defScope sInit) .none kVI dcI pmI anI cdI ctI), slI⟩) (cI : PySem.W.codeIn K cdI "Machine.__init__" = true) (kI : PySem.W.keepIn K (.ref fI) = true)
    (aM : PySem.W.findIn K (.ref C) "keep" = some (some (.ref fM))) (iM : PySem.W.isFn K (.ref fM) = true) (lM : K.lookup fM = some ⟨ocM, odM, .func (PySem.W.fnOf "keep" "Machine.keep" (defArgs sKeep) (defBody sKeep) (defScope sKeep) .none kVM dcM pmM anM cdM ctM), slM⟩) (cM : PySem.W.codeIn K cdM "Machine.keep" = true) (kM : PySem.W.keepIn K (.ref fM) = true)
    (aL : PySem.W.nsIn K mainGlobals "law" = some (some (.ref fL))) (lL : K.lookup fL = some ⟨ocL, odL, .func (PySem.W.fnOf "law" "law" (defArgs sLaw) (defBody sLaw) (defScope sLaw) .none kVL dcL pmL anL cdL ctL), slL⟩) (cL : PySem.W.codeIn K cdL "law" = true) (kL : PySem.W.keepIn K (.ref fL) = true)
    (aC : PySem.W.nsIn K mainGlobals "Machine" = some (some (.ref C))) (pgC : PySem.W.plainGet K C Str.empty = true) (hdC : PySem.W.hasDictIn K C = true) (poC : PySem.W.plainOver K C = true) (saC : PySem.W.findIn K (.ref C) "__setattr__" = some (some (.builtin "object.__setattr__"))) (mkC : PySem.W.makesIn K C = true) (kcC : PySem.W.keepIn K (.ref C) = true)
    (n0 : PySem.W.findIn K (.ref C) "standings" = some none) (n1 : PySem.W.findIn K (.ref C) "events" = some none) (n2 : PySem.W.findIn K (.ref C) "kept_out" = some none)
    (z0 : PySem.W.nsIn K mainGlobals "len" = some none) (z1 : PySem.W.nsIn K mainGlobals "range" = some none) (z2 : PySem.W.nsIn K mainGlobals "sorted" = some none) (z3 : PySem.W.nsIn K mainGlobals "tuple" = some none) (z4 : PySem.W.nsIn K mainGlobals "isinstance" = some none) (z5 : PySem.W.nsIn K mainGlobals "int" = some none) (z6 : PySem.W.nsIn K mainGlobals "bool" = some none) (z7 : PySem.W.nsIn K mainGlobals "abs" = some none) (z8 : PySem.W.nsIn K mainGlobals "sum" = some none) (z9 : PySem.W.nsIn K mainGlobals "all" = some none) (z10 : PySem.W.nsIn K mainGlobals "enumerate" = some none)
    (m0 : PySem.W.nsIn K mainGlobals "MOST_STANDINGS" = some (some (.int 12 t0))) (m1 : PySem.W.nsIn K mainGlobals "MOST_EVENTS" = some (some (.int 30 t1))) (m2 : PySem.W.nsIn K mainGlobals "MOST_TRIES" = some (some (.int 40 t2))) (m3 : PySem.W.nsIn K mainGlobals "MOST_POINTS" = some (some (.int 400 t3))) :
    ∃ fd : FuncData, (∀ (s : Shared) (v : Value), BindsTo s fd ⟨[v], []⟩ [("_law_script", v)]) ∧ ∀ base : Heap, K.In base → base.Ns mainGlobals mg → FnOk l.prog w K mg base CX0 8 fa fd ["_law_script"] (spLaw K) := by
  have e := hfa.symm.trans (PySem.W.mg_of X G aL)
  cases e
  have T : Txt mg := ⟨PySem.W.mg_none_of X G z0, PySem.W.mg_none_of X G z1, PySem.W.mg_none_of X G z2, PySem.W.mg_none_of X G z3, PySem.W.mg_none_of X G z4, PySem.W.mg_none_of X G z5, PySem.W.mg_none_of X G z6, PySem.W.mg_none_of X G z7, PySem.W.mg_none_of X G z8, PySem.W.mg_none_of X G z9, PySem.W.mg_none_of X G z10, ⟨_, PySem.W.mg_of X G m0⟩, ⟨_, PySem.W.mg_of X G m1⟩, ⟨_, PySem.W.mg_of X G m2⟩, ⟨_, PySem.W.mg_of X G m3⟩⟩
  have M : TxtM K mg C := ⟨⟨pgC, hdC, poC, saC⟩, n0, n1, n2, PySem.W.mg_of X G aC⟩
  have F0 := fun_mk (st := sIsInteger) l0 c0 k0
  have D0 : DefOf K mg "is_integer" sIsInteger ["thing"] := ⟨_, _, PySem.W.mg_of X G a0, F0, F0.binds (ps := ["thing"]) fun _ _ _ _ _ _ us hl => match us, hl with | [_], _ => rfl⟩
  have F1 := fun_mk (st := sIsWithin) l1 c1 k1
  have D1 : DefOf K mg "is_within" sIsWithin ["thing", "least", "most"] := ⟨_, _, PySem.W.mg_of X G a1, F1, F1.binds (ps := ["thing", "least", "most"]) fun _ _ _ _ _ _ us hl => match us, hl with | [_, _, _], _ => rfl⟩
  have F2 := fun_mk (st := sCommon) l2 c2 k2
  have D2 : DefOf K mg "common_divisor" sCommon ["one", "other"] := ⟨_, _, PySem.W.mg_of X G a2, F2, F2.binds (ps := ["one", "other"]) fun _ _ _ _ _ _ us hl => match us, hl with | [_, _], _ => rfl⟩
  have F3 := fun_mk (st := sIsEvent) l3 c3 k3
  have D3 : DefOf K mg "is_event" sIsEvent ["thing", "standings"] := ⟨_, _, PySem.W.mg_of X G a3, F3, F3.binds (ps := ["thing", "standings"]) fun _ _ _ _ _ _ us hl => match us, hl with | [_, _], _ => rfl⟩
  have F4 := fun_mk (st := sStepAt) l4 c4 k4
  have D4 : DefOf K mg "step_at" sStepAt ["machine", "event"] := ⟨_, _, PySem.W.mg_of X G a4, F4, F4.binds (ps := ["machine", "event"]) fun _ _ _ _ _ _ us hl => match us, hl with | [_, _], _ => rfl⟩
  have F5 := fun_mk (st := sFlooded) l5 c5 k5
  have D5 : DefOf K mg "flooded" sFlooded ["machine", "start", "inner"] := ⟨_, _, PySem.W.mg_of X G a5, F5, F5.binds (ps := ["machine", "start", "inner"]) fun _ _ _ _ _ _ us hl => match us, hl with | [_, _, _], _ => rfl⟩
  have F6 := fun_mk (st := sReached) l6 c6 k6
  have D6 : DefOf K mg "reached_of" sReached ["machine"] := ⟨_, _, PySem.W.mg_of X G a6, F6, F6.binds (ps := ["machine"]) fun _ _ _ _ _ _ us hl => match us, hl with | [_], _ => rfl⟩
  have F7 := fun_mk (st := sKnots) l7 c7 k7
  have D7 : DefOf K mg "knots_of" sKnots ["machine"] := ⟨_, _, PySem.W.mg_of X G a7, F7, F7.binds (ps := ["machine"]) fun _ _ _ _ _ _ us hl => match us, hl with | [_], _ => rfl⟩
  have F8 := fun_mk (st := sKnotOf) l8 c8 k8
  have D8 : DefOf K mg "knot_of" sKnotOf ["machine"] := ⟨_, _, PySem.W.mg_of X G a8, F8, F8.binds (ps := ["machine"]) fun _ _ _ _ _ _ us hl => match us, hl with | [_], _ => rfl⟩
  have F9 := fun_mk (st := sCheckStanding) l9 c9 k9
  have D9 : DefOf K mg "check_standing" sCheckStanding ["machine", "thing", "knots_there"] := ⟨_, _, PySem.W.mg_of X G a9, F9, F9.binds (ps := ["machine", "thing", "knots_there"]) fun _ _ _ _ _ _ us hl => match us, hl with | [_, _, _], _ => rfl⟩
  have F10 := fun_mk (st := sInner) l10 c10 k10
  have D10 : DefOf K mg "inner_events" sInner ["machine", "knot"] := ⟨_, _, PySem.W.mg_of X G a10, F10, F10.binds (ps := ["machine", "knot"]) fun _ _ _ _ _ _ us hl => match us, hl with | [_, _], _ => rfl⟩
  have F11 := fun_mk (st := sHeights) l11 c11 k11
  have D11 : DefOf K mg "heights" sHeights ["machine", "knot"] := ⟨_, _, PySem.W.mg_of X G a11, F11, F11.binds (ps := ["machine", "knot"]) fun _ _ _ _ _ _ us hl => match us, hl with | [_, _], _ => rfl⟩
  have F12 := fun_mk (st := sDiff) l12 c12 k12
  have D12 : DefOf K mg "differences" sDiff ["machine", "knot"] := ⟨_, _, PySem.W.mg_of X G a12, F12, F12.binds (ps := ["machine", "knot"]) fun _ _ _ _ _ _ us hl => match us, hl with | [_, _], _ => rfl⟩
  have F13 := fun_mk (st := sTakenIn) l13 c13 k13
  have D13 : DefOf K mg "taken_in" sTakenIn ["base", "pair"] := ⟨_, _, PySem.W.mg_of X G a13, F13, F13.binds (ps := ["base", "pair"]) fun _ _ _ _ _ _ us hl => match us, hl with | [_, _], _ => rfl⟩
  have F14 := fun_mk (st := sNetOf) l14 c14 k14
  have D14 : DefOf K mg "net_of" sNetOf ["machine", "knot"] := ⟨_, _, PySem.W.mg_of X G a14, F14, F14.binds (ps := ["machine", "knot"]) fun _ _ _ _ _ _ us hl => match us, hl with | [_, _], _ => rfl⟩
  have F15 := fun_mk (st := sNet) l15 c15 k15
  have D15 : DefOf K mg "net" sNet ["machine", "standing"] := ⟨_, _, PySem.W.mg_of X G a15, F15, F15.binds (ps := ["machine", "standing"]) fun _ _ _ _ _ _ us hl => match us, hl with | [_, _], _ => rfl⟩
  have F16 := fun_mk (st := sArea) l16 c16 k16
  have D16 : DefOf K mg "area" sArea ["machine", "standing"] := ⟨_, _, PySem.W.mg_of X G a16, F16, F16.binds (ps := ["machine", "standing"]) fun _ _ _ _ _ _ us hl => match us, hl with | [_, _], _ => rfl⟩
  have F17 := fun_mk (st := sPot) l17 c17 k17
  have D17 : DefOf K mg "_law_pot" sPot ["_law_script"] := ⟨_, _, PySem.W.mg_of X G a17, F17, F17.binds (ps := ["_law_script"]) fun _ _ _ _ _ _ us hl => match us, hl with | [_], _ => rfl⟩
  have F18 := fun_mk (st := sDraw) l18 c18 k18
  have D18 : DefOf K mg "_law_draw" sDraw ["_law_pot_here", "_law_many"] := ⟨_, _, PySem.W.mg_of X G a18, F18, F18.binds (ps := ["_law_pot_here", "_law_many"]) fun _ _ _ _ _ _ us hl => match us, hl with | [_, _], _ => rfl⟩
  have F19 := fun_mk (st := sParts) l19 c19 k19
  have D19 : DefOf K mg "_law_parts" sParts ["_law_pot_here", "_law_most_standings", "_law_most_events"] := ⟨_, _, PySem.W.mg_of X G a19, F19, F19.binds (ps := ["_law_pot_here", "_law_most_standings", "_law_most_events"]) fun _ _ _ _ _ _ us hl => match us, hl with | [_, _, _], _ => rfl⟩
  have F20 := fun_mk (st := sGcd) l20 c20 k20
  have D20 : DefOf K mg "_law_gcd" sGcd ["_law_one", "_law_other"] := ⟨_, _, PySem.W.mg_of X G a20, F20, F20.binds (ps := ["_law_one", "_law_other"]) fun _ _ _ _ _ _ us hl => match us, hl with | [_, _], _ => rfl⟩
  have F21 := fun_mk (st := sOut) l21 c21 k21
  have D21 : DefOf K mg "_law_out" sOut ["_law_parts_here", "_law_standing"] := ⟨_, _, PySem.W.mg_of X G a21, F21, F21.binds (ps := ["_law_parts_here", "_law_standing"]) fun _ _ _ _ _ _ us hl => match us, hl with | [_, _], _ => rfl⟩
  have F22 := fun_mk (st := sSums) l22 c22 k22
  have D22 : DefOf K mg "_law_sums" sSums ["_law_parts_here", "_law_ring"] := ⟨_, _, PySem.W.mg_of X G a22, F22, F22.binds (ps := ["_law_parts_here", "_law_ring"]) fun _ _ _ _ _ _ us hl => match us, hl with | [_, _], _ => rfl⟩
  have F23 := fun_mk (st := sLReached) l23 c23 k23
  have D23 : DefOf K mg "_law_reached" sLReached ["_law_parts_here"] := ⟨_, _, PySem.W.mg_of X G a23, F23, F23.binds (ps := ["_law_parts_here"]) fun _ _ _ _ _ _ us hl => match us, hl with | [_], _ => rfl⟩
  have F24 := fun_mk (st := sLeads) l24 c24 k24
  have D24 : DefOf K mg "_law_leads" sLeads ["_law_parts_here", "_law_start"] := ⟨_, _, PySem.W.mg_of X G a24, F24, F24.binds (ps := ["_law_parts_here", "_law_start"]) fun _ _ _ _ _ _ us hl => match us, hl with | [_, _], _ => rfl⟩
  have F25 := fun_mk (st := sLKnot) l25 c25 k25
  have D25 : DefOf K mg "_law_knot" sLKnot ["_law_parts_here", "_law_standing"] := ⟨_, _, PySem.W.mg_of X G a25, F25, F25.binds (ps := ["_law_parts_here", "_law_standing"]) fun _ _ _ _ _ _ us hl => match us, hl with | [_, _], _ => rfl⟩
  have F26 := fun_mk (st := sRings) l26 c26 k26
  have D26 : DefOf K mg "_law_rings" sRings ["_law_parts_here", "_law_knot_here"] := ⟨_, _, PySem.W.mg_of X G a26, F26, F26.binds (ps := ["_law_parts_here", "_law_knot_here"]) fun _ _ _ _ _ _ us hl => match us, hl with | [_, _], _ => rfl⟩
  have F27 := fun_mk (st := sIsBase) l27 c27 k27
  have D27 : DefOf K mg "_law_is_base" sIsBase ["_law_told"] := ⟨_, _, PySem.W.mg_of X G a27, F27, F27.binds (ps := ["_law_told"]) fun _ _ _ _ _ _ us hl => match us, hl with | [_], _ => rfl⟩
  have F28 := fun_mk (st := sIsIn) l28 c28 k28
  have D28 : DefOf K mg "_law_is_in" sIsIn ["_law_told", "_law_pair"] := ⟨_, _, PySem.W.mg_of X G a28, F28, F28.binds (ps := ["_law_told", "_law_pair"]) fun _ _ _ _ _ _ us hl => match us, hl with | [_, _], _ => rfl⟩
  have FI := fun_mk (st := sInit) lI cI kI
  have bI := FI.binds (ps := ["self", "standings", "events"]) fun _ _ _ _ _ _ us hl => match us, hl with | [_, _, _], _ => rfl
  have FM := fun_mk (st := sKeep) lM cM kM
  have bM := FM.binds (ps := ["self", "standings", "events"]) fun _ _ _ _ _ _ us hl => match us, hl with | [_, _, _], _ => rfl
  have FL := fun_mk (st := sLaw) lL cL kL
  refine ⟨PySem.W.fnOf "law" "law" (defArgs sLaw) (defBody sLaw) (defScope sLaw) .none kVL dcL pmL anL cdL ctL, fun s v => .of_eq rfl, fun base _ _ => ok_law (C := C) (fI := fI) (fdI := PySem.W.fnOf "__init__" "Machine.__init__" (defArgs sInit) (defBody sInit) (defScope sInit) .none kVI dcI pmI anI cdI ctI) FL T M ?_⟩
  have hInt := c_is_integer (P := l.prog) (w := w) (base := base) T D0
  have hWithin := c_is_within T hInt D1
  have hCommon := c_common (P := l.prog) (w := w) (base := base) T D2
  have hEvent := c_is_event T hWithin D3
  have hStep := c_step_at (P := l.prog) (w := w) (base := base) M D4
  have hFlood := c_flooded T M hStep D5
  have hReached := c_reached T M hFlood D6
  have hKnots := c_knots T M hFlood hReached D7
  have hKnotOf := c_knot_of T M hKnots D8
  have hCheck := c_check_standing (P := l.prog) (w := w) (base := base) T D9
  have hInner := c_inner (P := l.prog) (w := w) (base := base) T M D10
  have hHeights := c_heights T M hStep hInner D11
  have hDiff := c_diff T M hStep hInner hHeights D12
  have hTaken := c_taken_in T hCommon D13
  have hNetOf := c_net_of T M hDiff hTaken D14
  have hNet := c_net T M hKnotOf hCheck hNetOf D15
  have hArea := c_area T hNet D16
  have hPot := c_pot (P := l.prog) (w := w) (base := base) T D17
  have hDraw := c_draw (P := l.prog) (w := w) (base := base) T D18
  have hParts := c_parts T hDraw D19
  have hGcd := c_gcd (P := l.prog) (w := w) (base := base) T D20
  have hOut := c_out (P := l.prog) (w := w) (base := base) T D21
  have hSums := c_sums (P := l.prog) (w := w) (base := base) T D22
  have hLReached := c_lreached T hOut D23
  have hLeads := c_leads T hOut D24
  have hLKnot := c_lknot T hLeads D25
  have hRings := c_rings T hOut D26
  have hBase := c_is_base (P := l.prog) (w := w) (base := base) T D27
  have hIn := c_is_in (P := l.prog) (w := w) (base := base) T D28
  exact ⟨hPot, hDraw, hParts, hGcd, hLReached, hLKnot, hRings, hSums, hBase, hIn, hNet, hArea, ⟨mkC, aI, iI, kcC⟩, ok_init FI T M hWithin hEvent FM bM ⟨aM, iM, kM⟩, bI⟩
theorem walk {l : PySem.W.OpenLaw} {q : Program} {loose : List Str} {XP : (Str → Option Value) → Heap → Prop} {YP : World → Heap → Prop} {d : DefRec} {K : Params → PySem.W.Frag} (hn : l.most = some 63) (hdf : d.params.defaults = [])
    (hY : ∀ (w : World) (h : Heap), YP w h → (K w.params).In h)
    (F : ∀ (w : World) (mg : Str → Option Value) (fa : Addr) (h : Heap), (K w.params).In h → h.Ns mainGlobals mg → mg d.name = some (.ref fa) →
      ∃ fd : FuncData, (∀ (s : Shared) (u : Value), BindsTo s fd ⟨[u], []⟩ [("_law_script", u)]) ∧ ∀ base : Heap, (K w.params).In base → base.Ns mainGlobals mg → FnOk l.prog w (K w.params) mg base CX0 8 fa fd ["_law_script"] (spLaw (K w.params))) :
    PySem.W.WalkO q loose XP YP l.row.toRowW d [] (fun f vs => PySem.call f vs) :=
  L2.walk_of (n := 63) (k := 8) (x := "_law_script") (CX := fun _ => CX0) (sp := fun w => spLaw (K w.params)) hn (by decide) hdf ⟨rfl, by decide, by decide⟩ hY F (fun _ _ a ns hl _ hS => ⟨a, ns, rfl, hS, hl, fun _ => rfl⟩) fun _ _ _ _ _ z => z
end Nv

open PySem PySem.W PyProof.Rows in
set_option maxRecDepth 100000 in
set_option maxHeartbeats 0 in
theorem PySem.Challenge.cw_neverleapt_k28_whole_nets_by_all_rings_holds : PySem.Challenge.rw_neverleapt_k28_whole_nets_by_all_rings.Holds := by
  w_on; o_law; k_head; (case hw => w_witness2)
  k_fill
  refine Nv.walk (l := PySem.Challenge.rw_neverleapt_k28_whole_nets_by_all_rings) rfl rfl (fun w h Y => PySem.W.kIn_of Y) ?F
  case F =>
    intro w mg fa h KX G hmg
    refine' Nv.all_mk KX G hmg ?a0 ?l0 ?c0 ?k0 ?a1 ?l1 ?c1 ?k1 ?a2 ?l2 ?c2 ?k2 ?a3 ?l3 ?c3 ?k3 ?a4 ?l4 ?c4 ?k4 ?a5 ?l5 ?c5 ?k5 ?a6 ?l6 ?c6 ?k6 ?a7 ?l7 ?c7 ?k7 ?a8 ?l8 ?c8 ?k8 ?a9 ?l9 ?c9 ?k9 ?a10 ?l10 ?c10 ?k10 ?a11 ?l11 ?c11 ?k11 ?a12 ?l12 ?c12 ?k12 ?a13 ?l13 ?c13 ?k13 ?a14 ?l14 ?c14 ?k14 ?a15 ?l15 ?c15 ?k15 ?a16 ?l16 ?c16 ?k16 ?a17 ?l17 ?c17 ?k17 ?a18 ?l18 ?c18 ?k18 ?a19 ?l19 ?c19 ?k19 ?a20 ?l20 ?c20 ?k20 ?a21 ?l21 ?c21 ?k21 ?a22 ?l22 ?c22 ?k22 ?a23 ?l23 ?c23 ?k23 ?a24 ?l24 ?c24 ?k24 ?a25 ?l25 ?c25 ?k25 ?a26 ?l26 ?c26 ?k26 ?a27 ?l27 ?c27 ?k27 ?a28 ?l28 ?c28 ?k28 ?aI ?iI ?lI ?cI ?kI ?aM ?iM ?lM ?cM ?kM ?aL ?lL ?cL ?kL ?aC ?pgC ?hdC ?poC ?saC ?mkC ?kcC ?n0 ?n1 ?n2 ?z0 ?z1 ?z2 ?z3 ?z4 ?z5 ?z6 ?z7 ?z8 ?z9 ?z10 ?m0 ?m1 ?m2 ?m3
    (case aC => k_is)
    (case a0 => k_is)
    (case l0 => k_is)
    (case c0 => k_is)
    (case k0 => k_is)
    (case a1 => k_is)
    (case l1 => k_is)
    (case c1 => k_is)
    (case k1 => k_is)
    (case a2 => k_is)
    (case l2 => k_is)
    (case c2 => k_is)
    (case k2 => k_is)
    (case a3 => k_is)
    (case l3 => k_is)
    (case c3 => k_is)
    (case k3 => k_is)
    (case a4 => k_is)
    (case l4 => k_is)
    (case c4 => k_is)
    (case k4 => k_is)
    (case a5 => k_is)
    (case l5 => k_is)
    (case c5 => k_is)
    (case k5 => k_is)
    (case a6 => k_is)
    (case l6 => k_is)
    (case c6 => k_is)
    (case k6 => k_is)
    (case a7 => k_is)
    (case l7 => k_is)
    (case c7 => k_is)
    (case k7 => k_is)
    (case a8 => k_is)
    (case l8 => k_is)
    (case c8 => k_is)
    (case k8 => k_is)
    (case a9 => k_is)
    (case l9 => k_is)
    (case c9 => k_is)
    (case k9 => k_is)
    (case a10 => k_is)
    (case l10 => k_is)
    (case c10 => k_is)
    (case k10 => k_is)
    (case a11 => k_is)
    (case l11 => k_is)
    (case c11 => k_is)
    (case k11 => k_is)
    (case a12 => k_is)
    (case l12 => k_is)
    (case c12 => k_is)
    (case k12 => k_is)
    (case a13 => k_is)
    (case l13 => k_is)
    (case c13 => k_is)
    (case k13 => k_is)
    (case a14 => k_is)
    (case l14 => k_is)
    (case c14 => k_is)
    (case k14 => k_is)
    (case a15 => k_is)
    (case l15 => k_is)
    (case c15 => k_is)
    (case k15 => k_is)
    (case a16 => k_is)
    (case l16 => k_is)
    (case c16 => k_is)
    (case k16 => k_is)
    (case a17 => k_is)
    (case l17 => k_is)
    (case c17 => k_is)
    (case k17 => k_is)
    (case a18 => k_is)
    (case l18 => k_is)
    (case c18 => k_is)
    (case k18 => k_is)
    (case a19 => k_is)
    (case l19 => k_is)
    (case c19 => k_is)
    (case k19 => k_is)
    (case a20 => k_is)
    (case l20 => k_is)
    (case c20 => k_is)
    (case k20 => k_is)
    (case a21 => k_is)
    (case l21 => k_is)
    (case c21 => k_is)
    (case k21 => k_is)
    (case a22 => k_is)
    (case l22 => k_is)
    (case c22 => k_is)
    (case k22 => k_is)
    (case a23 => k_is)
    (case l23 => k_is)
    (case c23 => k_is)
    (case k23 => k_is)
    (case a24 => k_is)
    (case l24 => k_is)
    (case c24 => k_is)
    (case k24 => k_is)
    (case a25 => k_is)
    (case l25 => k_is)
    (case c25 => k_is)
    (case k25 => k_is)
    (case a26 => k_is)
    (case l26 => k_is)
    (case c26 => k_is)
    (case k26 => k_is)
    (case a27 => k_is)
    (case l27 => k_is)
    (case c27 => k_is)
    (case k27 => k_is)
    (case a28 => k_is)
    (case l28 => k_is)
    (case c28 => k_is)
    (case k28 => k_is)
    (case aI => k_is)
    (case iI => k_is)
    (case lI => k_is)
    (case cI => k_is)
    (case kI => k_is)
    (case aM => k_is)
    (case iM => k_is)
    (case lM => k_is)
    (case cM => k_is)
    (case kM => k_is)
    (case aL => k_is)
    (case lL => k_is)
    (case cL => k_is)
    (case kL => k_is)
    (case pgC => k_is)
    (case hdC => k_is)
    (case poC => k_is)
    (case saC => k_is)
    (case mkC => k_is)
    (case kcC => k_is)
    (case n0 => k_is)
    (case n1 => k_is)
    (case n2 => k_is)
    (case z0 => k_is)
    (case z1 => k_is)
    (case z2 => k_is)
    (case z3 => k_is)
    (case z4 => k_is)
    (case z5 => k_is)
    (case z6 => k_is)
    (case z7 => k_is)
    (case z8 => k_is)
    (case z9 => k_is)
    (case z10 => k_is)
    (case m0 => k_is)
    (case m1 => k_is)
    (case m2 => k_is)
    (case m3 => k_is)
