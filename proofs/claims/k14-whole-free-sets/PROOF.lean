import PyProof.Rows.All
import Wide.All
import OpenK.AllK
import Wide.FinOn
import HandS.ForMost
import HandS.Exc
import HandS.ExcOwn
import HandS.WordsExc
import HandS.Defaults
import HandS.IsInst
import HandS.Zip
import HandS.Slots
import HandS.SlotsOwn
import HandS.Star
import HandS.Conv
import HandS.TupAny
import HandS.TupSets
import HandS.Deep
import HandS.Flow
import HandS.Wide
import HandS.WideMore
import HandS.Style
import HandS.SortKw
import HandS.DictComp
import HandS.TryOnly
import KE.GoesMore
import KE.GoesEnum
import KE.GoesNew
import KE.KTupSum
import HandS.Walk
import HandS.AnyAll
import HandS.GenList
import KE.KDictIter
import KE.SortKeyHeap
import KE.KDictSum
import HandS.DictTup
import KE.KDictPairs
import KE.KExcSuper
import KE.KSuper
import KE.KExcPX
import HandS.ExcSuper
import KE.KStateDown
import Lean
import HandS.Head0
import HandS.Head1
import HandS.Head2
import HandS.HeadEnd
import HandS.HeadHook1
import HandS.HeadHook2
import HandS.HeadHook3
import HandS.HeadHook4
import HandS.HeadWalk
import PySem.Challenge.RW_pureladders_k14_whole_free_sets
set_option Elab.async false
set_option linter.all false
set_option maxRecDepth 100000
set_option maxHeartbeats 4000000
namespace K14
open PySem PySem.Spec PyProof.Rows L2
def top (i : Nat) : Stmt := PySem.Challenge.pw_pureladders_k14_whole_free_sets.main.body.getD i (.Pass ⟨0, 0, 0, 0⟩)
abbrev FnP (K : PySem.W.Frag) (x : Str) (st : Stmt) (f : Addr) (fd : FuncData) : Prop := FunD K x x (defArgs st) (defBody st) (defScope st) [] [] f fd
/-- a def of the text by its name -/
def Src (K : PySem.W.Frag) (mg : Str → Option Value) (x : Str) (st : Stmt) (ps : List Str) : Prop :=
  ∃ f fd, FnP K x st f fd ∧ mg x = some (.ref f) ∧ Binds K fd ps []
/-- a def by its name, with what it promises -/
def Cal (P : Program) (w : World) (K : PySem.W.Frag) (mg : Str → Option Value) (base : Heap) (CX : CXT) (k : Nat) (x : Str) (ps : List Str) (sp : Sp) : Prop :=
  ∃ f fd, FnOk P w K mg base CX k f fd ps sp ∧ mg x = some (.ref f) ∧ PySem.W.keepIn K (.ref f) = true ∧ Binds K fd ps []
section
variable {P : Program} {w : World} {K : PySem.W.Frag} {mg : Str → Option Value} {base : Heap}
theorem Cal.mono {CX : CXT} {j k : Nat} {x : Str} {ps : List Str} {sp : Sp} (C : Cal P w K mg base CX j x ps sp) (h : j ≤ k) : Cal P w K mg base CX k x ps sp := by
  obtain ⟨f, fd, F, a, b, c⟩ := C
  exact ⟨f, fd, F.mono h, a, b, c⟩
theorem Cal.imp {CX : CXT} {k : Nat} {x : Str} {ps : List Str} {sp sp' : Sp} (C : Cal P w K mg base CX k x ps sp) (h : ∀ vs H Q E, sp' vs H Q E → sp vs H Q E) : Cal P w K mg base CX k x ps sp' := by
  obtain ⟨f, fd, F, a, b, c⟩ := C
  exact ⟨f, fd, F.imp h, a, b, c⟩
theorem cal_of {N ps : List Str} {k : Nat} {x : Str} {st : Stmt} {sp : Sp} (S : Src K mg x st ps) (sc : FnScope N ps (defScope st)) (len : ∀ vs H Q E, sp vs H Q E → vs.length = ps.length)
    (hbody : ∀ (f : Addr) (cdv : Value) (A : Around) (outer : List Env) (s : Shared) (H : Hp) (vs : List V) (Q : VK) (E : XK), Room k (A.deeper (envOfC x (defScope st) s.heap.objs.size f cdv)) → sp vs H Q E →
      ∃ t, PSs (cxOf CX0 P w K mg base N x (defScope st) f cdv A outer s H E).nox (defBody st) t ∧ t { nx := fun _ H' => Q .non H', rt := Q } (start N vs) H) : Cal P w K mg base CX0 (k + 1) x ps sp := by
  obtain ⟨f, fd, F, g, b⟩ := S
  refine ⟨f, fd, F.ok sc len fun cdv A outer s H vs Q E hr h => ?_, g, F.kp, b⟩
  obtain ⟨t, h1, h2⟩ := hbody f cdv A outer s H vs Q E hr h
  exact ⟨t, h1.nox, h2⟩
theorem cal_ofX {N ps : List Str} {k : Nat} {x : Str} {st : Stmt} {sp : Sp} (S : Src K mg x st ps) (sc : FnScope N ps (defScope st)) (len : ∀ vs H Q E, sp vs H Q E → vs.length = ps.length)
    (hbody : ∀ (f : Addr) (cdv : Value) (A : Around) (outer : List Env) (s : Shared) (H : Hp) (vs : List V) (Q : VK) (E : XK), Room k (A.deeper (envOfC x (defScope st) s.heap.objs.size f cdv)) → sp vs H Q E →
      ∃ t, PSs (cxOf (L2.CX P w) P w K mg base N x (defScope st) f cdv A outer s H E) (defBody st) t ∧ t { nx := fun _ H' => Q .non H', rt := Q } (start N vs) H) : Cal P w K mg base (L2.CX P w) (k + 1) x ps sp := by
  obtain ⟨f, fd, F, g, b⟩ := S
  exact ⟨f, fd, F.ok sc len fun cdv A outer s H vs Q E hr h => hbody f cdv A outer s H vs Q E hr h, g, F.kp, b⟩
end
section
variable {X : Cx} {CX : CXT} {k : Nat} {x : Str} {ps : List Str} {sp : Sp} {E : XK} {p pos : Pos} {e : Expr} {es : List Expr} {t : TA}
theorem pe_cal (C : Cal X.prog X.w X.K X.mg X.base CX k x ps sp) (hr : Room k X.A) (hx : Passes CX X E) (ha : PA X (e :: es) t) (hg : Gl X x := by rfl) (hdb : (x == ("__debug__" : Str)) = false := by decide)
    (he : starEach (e :: es) X.env = (false, eval e X.env) :: starEach es X.env := by rfl)
    (hpl : (backTo pos (starEach es X.env)).any (·.1) = false := by rfl) :
    PE X (.Call (.Name x p) (e :: es) [] pos) (tCall sp [] E t) := by
  obtain ⟨f, fd, F, g, kp, b⟩ := C
  exact pe_call F hr hg g kp b .nil hx ha hdb he hpl
end
/-- the built-in names that the text leaves as they are -/
structure Bl (mg : Str → Option Value) : Prop where
  isinstance : mg "isinstance" = none
  int : mg "int" = none
  bool : mg "bool" = none
  tuple : mg "tuple" = none
  list : mg "list" = none
  set : mg "set" = none
  len : mg "len" = none
  all : mg "all" = none
  any : mg "any" = none
  zip : mg "zip" = none
  sorted : mg "sorted" = none
  sum : mg "sum" = none
  max : mg "max" = none
  min : mg "min" = none
  abs : mg "abs" = none
  range : mg "range" = none
  next : mg "next" = none
  enumerate : mg "enumerate" = none
/-- the module's ints -/
def IsN (mg : Str → Option Value) (x : Str) (i : Int) : Prop := ∃ t, mg x = some (.int i t)

/-! ### is_whole, is_within, require_within, require_letters -/
abbrev sWhole : Stmt := top 10
abbrev sWithin : Stmt := top 11
abbrev sReq : Stmt := top 12
abbrev sReqL : Stmt := top 19
def spWhole : Sp := fun vs H Q _ => ∃ v, vs = [v] ∧ ((∃ i, v = .int i ∧ Q (.bl true) H) ∨ (∃ b, v = .bl b ∧ Q (.bl false) H))
def spWithin : Sp := fun vs H Q _ => ∃ (v : V) (lo hi : Int), vs = [v, .int lo, .int hi] ∧ ((∃ i, v = .int i ∧ Q (.bl (decide (lo ≤ i) && decide (i ≤ hi))) H) ∨ (∃ b, v = .bl b ∧ Q (.bl false) H))
def spReq : Sp := fun vs H Q _ => ∃ (i lo hi : Int), vs = [.int i, .int lo, .int hi] ∧ lo ≤ i ∧ i ≤ hi ∧ Q .non H
def spReqL : Sp := fun vs H Q _ => ∃ (i : Int), vs = [.int i] ∧ 1 ≤ i ∧ i ≤ 8 ∧ Q .non H
section
variable {P : Program} {w : World} {K : PySem.W.Frag} {mg : Str → Option Value} {base : Heap}
theorem scWhole : FnScope ["value"] ["value"] (defScope sWhole) := ⟨rfl, rfl, rfl, by decide +kernel, rfl, by decide +kernel, by decide +kernel⟩
theorem scWithin : FnScope ["value", "least", "greatest"] ["value", "least", "greatest"] (defScope sWithin) := ⟨rfl, rfl, rfl, by decide +kernel, rfl, by decide +kernel, by decide +kernel⟩
theorem scReq : FnScope ["value", "least", "greatest"] ["value", "least", "greatest"] (defScope sReq) := ⟨rfl, rfl, rfl, by decide +kernel, rfl, by decide +kernel, by decide +kernel⟩
theorem scReqL : FnScope ["letters"] ["letters"] (defScope sReqL) := ⟨rfl, rfl, rfl, by decide +kernel, rfl, by decide +kernel, by decide +kernel⟩
theorem kit_ii : PySem.W.kitOne K (.type "int") (.type "int") = some true := kit_ty (by decide +kernel)
theorem kit_ib : PySem.W.kitOne K (.type "int") (.type "bool") = some false := kit_ty (by decide +kernel)
theorem kit_bi : PySem.W.kitOne K (.type "bool") (.type "int") = some true := kit_ty (by decide +kernel)
theorem kit_bb : PySem.W.kitOne K (.type "bool") (.type "bool") = some true := kit_ty (by decide +kernel)
theorem ok_whole (S : Src K mg "is_whole" sWhole ["value"]) (B : Bl mg) : Cal P w K mg base CX0 1 "is_whole" ["value"] spWhole := by
  refine cal_of S scWhole (fun vs H Q E h => ?_) (fun f cdv A outer s H vs Q E hr h => ?_)
  · obtain ⟨v, rfl, _⟩ := h
    rfl
  · obtain ⟨v, rfl, h⟩ := h
    refine ⟨_, pss_one (ps_ret (pe_and (pe_callB call_isi (by rfl) B.isinstance (by decide +kernel) (pa_cons (pv 0) (pa_cons (pe_bltn (v := .ty "int") (by rfl) B.int (by decide +kernel) rfl) pa_nil)))
      (pe_one (pe_not (pe_callB call_isi (by rfl) B.isinstance (by decide +kernel) (pa_cons (pv 0) (pa_cons (pe_bltn (v := .ty "bool") (by rfl) B.bool (by decide +kernel) rfl) pa_nil))))))), ?_⟩
    rcases h with ⟨i, rfl, q⟩ | ⟨b, rfl, q⟩
    · refine ⟨_, rfl, _, _, _, _, true, rfl, .ty "int", .base (.int i), kit_ii, _, rfl, ?_⟩
      refine iteT ?_
      exact ⟨_, rfl, _, _, _, _, false, rfl, .ty "bool", .base (.int i), kit_ib, _, rfl, q⟩
    · refine ⟨_, rfl, _, _, _, _, true, rfl, .ty "int", .base (.bl b), kit_bi, _, rfl, ?_⟩
      refine iteT ?_
      exact ⟨_, rfl, _, _, _, _, true, rfl, .ty "bool", .base (.bl b), kit_bb, _, rfl, q⟩
theorem ok_within (S : Src K mg "is_within" sWithin ["value", "least", "greatest"]) (C1 : Cal P w K mg base CX0 1 "is_whole" ["value"] spWhole) : Cal P w K mg base CX0 2 "is_within" ["value", "least", "greatest"] spWithin := by
  refine cal_of S scWithin (fun vs H Q E h => ?_) (fun f cdv A outer s H vs Q E hr h => ?_)
  · obtain ⟨v, lo, hi, rfl, _⟩ := h
    rfl
  · obtain ⟨v, lo, hi, rfl, h⟩ := h
    refine ⟨_, pss_one (ps_ret (pe_and (pe_cal C1 hr pass0 (pa_cons (pv 0) pa_nil)) (pe_one (pe_chain op_le op_le (pv 1) (pv 0) (pv 2))))), ?_⟩
    rcases h with ⟨i, rfl, q⟩ | ⟨b, rfl, q⟩
    · refine ⟨_, rfl, _, rfl, .inl ⟨i, rfl, _, rfl, iteT ?_⟩⟩
      refine ⟨_, rfl, _, rfl, _, _, rfl, rfl, _, rfl, ?_⟩
      refine ite2 (fun c => ?_) (fun c => ?_)
      · have c' : lo ≤ i := of_decide_eq_true c
        refine ⟨_, rfl, _, _, rfl, rfl, ?_⟩
        rw [decide_eq_true c', Bool.true_and] at q
        exact q
      · have c' : ¬ lo ≤ i := fun z => c (decide_eq_true z)
        rw [decide_eq_false c', Bool.false_and] at q
        exact q
    · exact ⟨_, rfl, _, rfl, .inr ⟨b, rfl, _, rfl, iteF q⟩⟩
theorem ok_req (S : Src K mg "require_within" sReq ["value", "least", "greatest"]) (C1 : Cal P w K mg base CX0 2 "is_within" ["value", "least", "greatest"] spWithin) : Cal P w K mg base CX0 3 "require_within" ["value", "least", "greatest"] spReq := by
  refine cal_of S scReq (fun vs H Q E h => ?_) (fun f cdv A outer s H vs Q E hr h => ?_)
  · obtain ⟨v, lo, hi, rfl, _⟩ := h
    rfl
  · obtain ⟨i, lo, hi, rfl, h1, h2, q⟩ := h
    refine ⟨_, pss_one (ps_if (pt_not (pt_val (pe_cal C1 hr pass0 (pa_cons (pv 0) (pa_cons (pv 1) (pa_cons (pv 2) pa_nil)))))) (pss_one ps_never) pss_nil), ?_⟩
    refine ⟨_, rfl, _, rfl, _, rfl, _, _, _, rfl, .inl ⟨i, rfl, _, rfl, ?_⟩⟩
    rw [decide_eq_true h1, decide_eq_true h2]
    exact iteF q
theorem ok_reqL (S : Src K mg "require_letters" sReqL ["letters"]) (C1 : Cal P w K mg base CX0 3 "require_within" ["value", "least", "greatest"] spReq) (m : IsN mg "MAX_LETTERS" 8) : Cal P w K mg base CX0 4 "require_letters" ["letters"] spReqL := by
  refine cal_of S scReqL (fun vs H Q E h => ?_) (fun f cdv A outer s H vs Q E hr h => ?_)
  · obtain ⟨v, rfl, _⟩ := h
    rfl
  · obtain ⟨i, rfl, h1, h2, q⟩ := h
    obtain ⟨t, m⟩ := m
    refine ⟨_, pss_one (ps_expr (pe_cal C1 hr pass0 (pa_cons (pv 0) (pa_cons pe_int (pa_cons (pe_glob (v := .int 8) (by rfl) m ⟨_, rfl⟩) pa_nil))))), ?_⟩
    exact ⟨_, rfl, i, 1, 8, rfl, h1, h2, q⟩
end
end K14

set_option maxHeartbeats 4000000
/-! rules that the layer has not: enumerate, sum, max of a tuple; powers of great ints; what a comprehension keeps -/
namespace K14
open PySem PySem.Spec PyProof.Rows L2
/-! ### enumerate(tuple): by what its iterator draws (KE.GoesNew), put under the layer's turns -/
/-- enumerate(v) with v alone, over any begun iterator -/
theorem enum1_new {v : Value} {o : Obj} {G : Heap → Prop} (B : Begins v o G) :
    Meets (Builtin.«enumerate.__new__» ⟨[.type "enumerate", v], []⟩) fun _ R s => G s.heap ∧ R (.ok (.ret (.ref (s.heap.objs.size + 1))))
      { s with heap := (s.heap.push o).push ⟨.type "enumerate", none, .fields #[.none, .bool false, .ref s.heap.objs.size, rawInt 0, .none, .none], #[]⟩ } := by
  refine .of_wp fun prog w A R s0 hR => ?_
  obtain ⟨h, gs, dr, k, os⟩ := s0
  have known := sub_enumerate
  have begun : ∀ {A' : Around} {E' : Value → Shared → Prop} {Q' : Value → Shared → Prop}, Q' (.ref h.objs.size) ⟨h.push o, gs, dr, k, os⟩ → wpAny (model prog w) A' (pyIter v) Q' E' ⟨h, gs, dr, k, os⟩ :=
    fun {_ _ Q'} z => B.iter prog w _ _ ⟨h, gs, dr, k, os⟩ Q' hR.1 z
  have size1 : (h.push o).objs.size = h.objs.size + 1 := Heap.size_push ..
  have last := hR.2
  rw [← size1] at last
  wp_walk using begun
  refine wpAny_stack_any fun _ => wpAny_pure ?_
  split <;> first
    | (wp_walk using begun
       exact ⟨_, rfl, last⟩)
    | (rename_i c _ _ _ _ _
       cases (c == Value.type "enumerate") <;> (wp_walk using begun; exact ⟨_, rfl, last⟩))
theorem enum1 {prog : Program} {w : World} {A : Around} {E : Value → Shared → Prop} {Q : Value → Shared → Prop} {s : Shared} {v : Value} {o : Obj} {G : Heap → Prop} (B : Begins v o G) (hG : G s.heap)
    (q : ∀ h', IsEnum h' (s.heap.objs.size + 1) s.heap.objs.size 0 .none → h'.get? s.heap.objs.size = some o → (∀ b u, s.heap.get? b = some u → h'.get? b = some u) → Q (.ref (s.heap.objs.size + 1)) { s with heap := h' }) :
    wpAny (model prog w) A (call (.type "enumerate") [v]) Q E s := by
  have size1 : (s.heap.push o).objs.size = s.heap.objs.size + 1 := Heap.size_push ..
  have made : ∀ e : Obj, e.isFreed = false → ((s.heap.push o).push e).get? (s.heap.objs.size + 1) = some e := fun e he => by
    rw [← size1]
    exact Heap.get?_push_size _ he
  have isE := made ⟨.type "enumerate", none, .fields #[.none, .bool false, .ref s.heap.objs.size, rawInt 0, .none, .none], #[]⟩ rfl
  exact callType_new F.called_enumerate (by decide) (F.typeCall_enumerate_1 v) (F.newCall_enumerate_1 v) (fun x => F.args_object_init_2 x v) F.entry_enumerate_new (enum1_new B)
    ⟨hG, ⟨_, isE, rfl⟩, q _ isE (Heap.get?_push_of_some _ (Heap.get?_push_size _ B.free)) fun b u e => Heap.get?_push_of_some _ (Heap.get?_push_of_some _ e)⟩
/-- the tuple at a, with its places -/
def IteT (K : PySem.W.Frag) (a : Addr) : It where
  go i H := ∃ xs, SqT K H a xs ∧ ∃ x, xs[i]? = some x
  yld i H v H' := ∃ T x, (v = .ref T ∧ H T = none ∧ H' = upd H T (.tup [.int (i : Nat), x])) ∧ ∀ xs, SqT K H a xs → xs[i]? = some x
  stop i H := ∃ xs, SqT K H a xs ∧ i = xs.length
/-- between the turns: e counts, it stands at the same place of a -/
def EnAt (a e it : Addr) (i : Nat) (h : Heap) : Prop := (∃ old, IsEnum h e it (0 + (i : Int)) old) ∧ h.IsTupleIter it a i
section
variable {P : Program} {w : World} {K : PySem.W.Frag} {elts : List Expr} {kk : Nat} {tpos : Pos} {a e it : Addr}
theorem pair_or {α : Type} {b x y : α} (h : b ∈ [x, y]) : b = x ∨ b = y := (List.mem_cons.mp h).imp_right fun z => List.mem_singleton.mp z
theorem en_goes {X : Cx} (hc : X.A.handled = none) (h1 : e ≠ it) (h2 : a ≠ it) (h3 : e ≠ a) (its : Array Value) :
    GoesN X.prog X.w X.A (.Tuple elts kk tpos) e [e, it, a] [e, it] its.size (fun i h₀ v h => ∃ T t x, v = .ref T ∧ h₀.objs.size ≤ T ∧ its[i]? = some x ∧ h.IsTuple T #[.int (0 + (i : Int)) t, x])
      (fun i h => (∃ old, IsEnum h e it (0 + (i : Int)) old) ∧ h.IsTupleIter it a i ∧ h.IsTuple a its) :=
  GoesN.enumFrom 0 (Draws.tuple (A := X.A.in1) hc it a h2 its) e h1 (fun z => (pair_or z).elim h1 h3) List.mem_cons_self
theorem turn_enumT (h1 : e ≠ it) (h2 : a ≠ it) (h3 : e ≠ a) : Turn P w K (.Tuple elts kk tpos) (IteT K a) [e, it] e (EnAt a e it) := by
  refine ⟨List.mem_cons_self, fun i h st b hb => ?_, fun i h h' st k => ?_, ?_, ?_, fun A i s Q E st q => ?_⟩
  · obtain ⟨⟨old, he⟩, oi, hoi, _, hd⟩ := st
    rcases pair_or hb with z | z <;> subst z
    · exact ⟨_, he, nofun⟩
    · exact ⟨oi, hoi, fun v z => absurd (hd.symm.trans z) nofun⟩
  · obtain ⟨⟨old, he⟩, hi⟩ := st
    exact ⟨⟨old, k e List.mem_cons_self _ he⟩, hi.at fun o z => k it (List.mem_cons_of_mem _ List.mem_cons_self) o z⟩
  · intro X eP ew eK hc i pins s σ H E I hf st hg
    subst eP ew eK
    obtain ⟨xs, hq, x, hx⟩ := hg
    obtain ⟨its, rv, p, _⟩ := I.tuple hq
    obtain ⟨u, hu, ru⟩ := Vals.get rv hx
    have hui : its.toArray[i]? = some u := by rw [List.getElem?_toArray]; exact hu
    refine (en_goes (I.ok.hd hc) h1 h2 h3 its.toArray).goes i s _ E (Array.getElem?_eq_some_iff.mp hui).1 ⟨st.1, st.2, p⟩ ?_
    rintro _ h' tk ⟨T, t, y, rfl, hT, hy, tup⟩ st' keep _
    obtain rfl : u = y := Option.some.inj (hui.symm.trans hy)
    have pairOk : ObjOk X.prog X.w (upd H T (.tup [.int (i : Nat), x])) h' T (.tup [.int (i : Nat), x]) :=
      ⟨by show 2 ≤ sizeLine; decide, [.int (0 + (i : Int)) t, u], .cons ⟨t, by rw [Int.zero_add]⟩ (.cons ru .nil), tup⟩
    refine ⟨.ref T, _, I.turnedNew keep hf hT pairOk, rfl, ⟨T, x, ⟨rfl, I.hok.fresh hT, rfl⟩, fun ys hy => (I.tuple_inj hy hq) ▸ hx⟩, ⟨st'.1, st'.2.1⟩, fun b hb => ?_⟩
    obtain ⟨old, he⟩ := st.1
    obtain ⟨oi, hoi, _⟩ := st.2
    have low : b < s.heap.objs.size := by
      rcases pair_or hb with z | z <;> subst z
      · exact Heap.lt_size he
      · exact Heap.lt_size hoi
    rw [upd_ne (Nat.ne_of_lt (Nat.lt_of_lt_of_le low hT))]
    exact (hf b hb).1
  · intro X eP ew eK hc i pins s σ H E I hf st hg
    subst eP ew eK
    obtain ⟨xs, hq, hx⟩ := hg
    obtain ⟨its, rv, p, _⟩ := I.tuple hq
    have hn : i = its.toArray.size := by rw [hx, rv.length, List.size_toArray]
    subst hn
    exact (en_goes (elts := elts) (kk := kk) (tpos := tpos) (I.ok.hd hc) h1 h2 h3 its.toArray).stops s _ E ⟨st.1, st.2, p⟩ fun h' tk keep _ => I.turnedL keep hf
  · obtain ⟨⟨old, he⟩, _⟩ := st
    exact wpAny_pyIter_enum he q
end
def iEnumT (K : PySem.W.Frag) (ta : TA) : TI := fun σ H R => ta σ H fun vs H1 => ∃ a xs, vs = [.ref a] ∧ SqT K H1 a xs ∧ R (IteT K a) H1
theorem pi_enumT {X : Cx} {e : Expr} {ta : TA} {p pos tpos : Pos} {elts : List Expr} {kk : Nat} (hg : Gl X "enumerate") (hm : X.mg "enumerate" = none) (ha : PA X [e] ta) (hs : starEach [e] X.env = [(false, eval e X.env)] := by rfl) :
    PI X (.Tuple elts kk tpos) (.Call (.Name "enumerate" p) [e] [] pos) (iEnumT X.K ta) where
  run pins s σ H R I h := by
    have args := ha.run pos pins s σ H _ I h
    refine Call_ (ld_blt I hg hm boot_enumerate (PyProof.Rows.callWith_type1 (thn args fun us s1 z => ?_) hs rfl))
    obtain ⟨vs, H1, I1, r1, a, xs, rfl, hq, q⟩ := z
    obtain ⟨its, rv, tup, _⟩ := I1.tuple hq
    obtain rfl : us = [.ref a] := Vals.ref1 r1
    obtain ⟨N, hN⟩ : ∃ N, N = s1.heap.objs.size := ⟨_, rfl⟩
    have below : a < N := hN ▸ tup.lt
    refine enum1 (begins_tuple a its.toArray) tup fun h' isE isI keep => wpAny_pyIter_enum isE ?_
    rw [← hN] at isE isI ⊢
    have fresh : ∀ b, N ≤ b → FpOk X pins H1 b := fun b hb => I1.fpOk (hN ▸ hb) (I1.hok.fresh (hN ▸ hb))
    refine ⟨N + 1, [N + 1, N], EnAt a (N + 1) N, IteT X.K a, H1, rfl, I1.kept (t' := s1.toks) keep, turn_enumT (Nat.succ_ne_self N) (Nat.ne_of_lt below) (Nat.ne_of_gt (Nat.le_succ_of_le below)), ⟨⟨_, isE⟩, _, isI, rfl, rfl⟩, fun b hb => ?_, q⟩
    rcases pair_or hb with z | z <;> rw [z]
    · exact fresh _ (Nat.le_succ N)
    · exact fresh _ (Nat.le_refl N)
section
variable {K : PySem.W.Frag} {a b : Addr} {xs ys : List V}
theorem walk_enumT : Walk (IteT K a) xs.length (fun H => SqT K H a xs) (YPair (fun i => some (.int (i : Nat))) (fun i => xs[i]?)) where
  goes i _ hi q := ⟨xs, q, _, List.getElem?_eq_getElem hi⟩
  stops _ q := ⟨xs, q, rfl⟩
  yields i H v H' _ q y := by
    obtain ⟨T, x, ⟨hv, hT, hH⟩, at_⟩ := y
    exact ⟨T, .int (i : Nat), x, hv, hT, hH, rfl, at_ xs q⟩
theorem walk_zipT {n : Nat} (hn : n = min xs.length ys.length) : Walk (RZ.ItzT K a b) n (fun H => SqT K H a xs ∧ SqT K H b ys) (YPair (fun i => xs[i]?) (fun i => ys[i]?)) := by
  have both : ∀ i, i < n → i < xs.length ∧ i < ys.length := fun i hi => Nat.lt_min.mp (hn ▸ hi)
  constructor
  · intro i H hi ⟨qx, qy⟩
    exact ⟨_, _, _, _, qx, qy, List.getElem?_eq_getElem (both i hi).1, List.getElem?_eq_getElem (both i hi).2⟩
  · intro H ⟨qx, qy⟩
    exact ⟨_, _, qx, qy, by subst hn; omega⟩
  · rintro i H v H' hi ⟨qx, qy⟩ ⟨T, x, z, rest⟩
    exact ⟨T, x, z, rest.1, rest.2.1, rest.2.2.1, rest.2.2.2.1 xs qx, rest.2.2.2.2 ys qy⟩
end
/-! ### sum, max of a tuple of ints -/
theorem getD_mem0 {m : List Int} {i : Nat} (h : i < m.length) : m.getD i 0 ∈ m := by
  rw [List.getD_eq_getElem?_getD, List.getElem?_eq_getElem h]
  exact List.getElem_mem h
section
variable {prog : Program} {w : World} {A : Around} {E Q : Value → Shared → Prop} {s : Shared} {l : Addr} {ns : List Int} {its : List Value}
/-- the items as ints with their tokens -/
theorem as_ints (hi : IntsAre its ns) : ∃ xs : Array (Int × Tok), its.toArray = intItems xs ∧ xs.size = ns.length ∧ ∀ j, numAt xs j = ns.getD j 0 := by
  have ⟨xs, e⟩ := hi.allInts.items
  have flat : its = (intItems xs).toList := by rw [← e]
  have all : xs.toList.map (·.1) = ns := by
    have z := hi.numsOf
    rwa [flat, nums_intItems] at z
  exact ⟨xs, by rw [← e], by rw [← all, List.length_map, Array.length_toList], fun j => by rw [numAt_eq, all]⟩
theorem sum_rawT (hh : A.handled = none) (hl : s.heap.IsTuple l its.toArray) (hi : IntsAre its ns)
    (q : ∀ h' tk t', (∀ b o, s.heap.get? b = some o → h'.get? b = some o) → Q (.int ns.sum t') { s with heap := h', toks := tk }) : wpAny (model prog w) A (call (.builtin "sum") [.ref l]) Q E s := by
  obtain ⟨xs, e, len, val⟩ := as_ints hi
  have each : xs.toList.map (·.1) = ns := List.ext_getElem (by rw [List.length_map, Array.length_toList, len]) fun j h1 h2 => by
    have z := val j
    rwa [numAt_eq, List.getD_eq_getElem?_getD, List.getD_eq_getElem?_getD, List.getElem?_eq_getElem h1, List.getElem?_eq_getElem h2] at z
  have all : preSum (numAt xs) xs.size = ns.sum := by
    rw [preSum_eq, each, List.take_of_length_le (Nat.le_of_eq len.symm)]
  refine PySem.W.ktm_sumG hh (xs := xs) (e ▸ hl) fun h' tk t' keep => ?_
  rw [all]
  exact q h' tk t' keep
theorem max_rawT (hh : A.handled = none) (hl : s.heap.IsTuple l its.toArray) (hi : IntsAre its ns) (hne : 0 < ns.length)
    (h : ∀ h' tk M t', (∀ b o, s.heap.get? b = some o → h'.get? b = some o) → (M ∈ ns ∧ ∀ y ∈ ns, y ≤ M) → Q (.int M t') { s with heap := h', toks := tk }) : wpAny (model prog w) A (call (.builtin "max") [.ref l]) Q E s := by
  obtain ⟨xs, e, len, val⟩ := as_ints hi
  rw [e] at hl
  have lt : l < s.heap.objs.size := hl.elim fun _ z => Heap.lt_size z.1
  have sz : (intItems xs).size = xs.size := by unfold intItems; exact Array.size_map
  have front : ∀ b, b ∈ [s.heap.objs.size, l] → b < (s.heap.push ⟨.type "tuple_iterator", none, .fields #[.ref l, .int 0 0], #[]⟩).objs.size := fun b hb => by
    rw [Heap.size_push]
    rcases pair_or hb with z | z <;> rw [z]
    · exact Nat.lt_succ_self _
    · exact Nat.le_succ_of_le lt
  refine call_max_walk ((begins_tuple l (intItems xs)).iter prog w A.in1 _ s _ hl ?_)
  refine ⟨s.heap.objs.size, _, _, _, _, _, _, rfl, Walks.tuple (A := A.in1) hh _ l (Nat.ne_of_lt lt) (intItems xs), ⟨⟨_, Heap.get?_push_size _ rfl, rfl, rfl⟩, hl.push _⟩, front, by rw [sz, len]; exact hne, CmpOf.ints_gt (numAt xs) (fun _ _ => intItems_at), fun v h' tk at_ keep => ?_⟩
  obtain ⟨t, rfl⟩ := intItems_at at_
  have best := argBest_gt (numAt xs) ((intItems xs).size - 1)
  refine h h' tk _ t (fun b o z => keep b o (fun hb => Nat.lt_irrefl b (by rw [List.mem_singleton.mp hb] at z ⊢; exact Heap.lt_size z)) (Heap.get?_push_of_some _ z)) ⟨?_, fun y hy => ?_⟩
  · rw [val]
    exact getD_mem0 (by omega)
  · obtain ⟨j, hj, rfl⟩ := List.mem_iff_getElem.mp hy
    have z := best.2 j (by omega)
    rwa [val j, List.getD_eq_getElem?_getD, List.getElem?_eq_getElem hj] at z
end
section
variable {X : Cx}
def rSumT (K : PySem.W.Frag) : List V → Hp → VK → Prop := fun vs H Q => ∃ (a : Addr) (ns : List Int), vs = [V.ref a] ∧ SqT K H a (ns.map V.int) ∧ Q (.int ns.sum) H
def rMaxT (K : PySem.W.Frag) : List V → Hp → VK → Prop := fun vs H Q => ∃ (a : Addr) (ns : List Int), vs = [V.ref a] ∧ SqT K H a (ns.map V.int) ∧ 0 < ns.length ∧ ∀ m, m ∈ ns → (∀ y, y ∈ ns → y ≤ m) → Q (.int m) H
theorem cr_sumT (hc : X.calm = true) : CallR X (.builtin "sum") (rSumT X.K) := fun pins s σ H vs us Q I r h => by
  obtain ⟨a, ns, rfl, tup, q⟩ := h
  obtain ⟨its, rv, hl, _⟩ := I.tuple tup
  rw [Vals.ref1 r]
  exact sum_rawT (I.ok.hd hc) hl rv.ints fun h' tk t' keep => ⟨.int ns.sum, H, I.kept keep, ⟨t', rfl⟩, q⟩
theorem cr_maxT (hc : X.calm = true) : CallR X (.builtin "max") (rMaxT X.K) := fun pins s σ H vs us Q I r h => by
  obtain ⟨a, ns, rfl, tup, some_, q⟩ := h
  obtain ⟨its, rv, hl, _⟩ := I.tuple tup
  rw [Vals.ref1 r]
  exact max_rawT (I.ok.hd hc) hl rv.ints some_ fun h' tk m t' keep top_ => ⟨.int m, H, I.kept keep, ⟨t', rfl⟩, q m top_.1 top_.2⟩
/-- a ** b, the bits of the power below 2 ^ 27 -/
def CPowB : Int → Int → Prop := fun i j => 0 ≤ j ∧ (Builtin.Int.intBits i : Int) * j ≤ 2 ^ 27
theorem op_powB : OpR X (binaryOp .Pow) (rI CPowB fun i j => .int (i ^ j.toNat)) := by
  rintro pins s σ H x y v u Q I rx ry ⟨i, j, rfl, rfl, ⟨h1, h2⟩, q⟩
  obtain ⟨t, rfl⟩ := rx
  obtain ⟨t', rfl⟩ := ry
  exact PyProof.Rows.pow_int h1 h2 ⟨.int _, H, I.tok _, ⟨_, rfl⟩, q⟩
end

/-! ### what a comprehension keeps -/
theorem same_upd {H : Hp} {p : Addr} {o : HO} (h : H p = none) : Same H (upd H p o) := fun b u e => by
  rw [upd_ne (ne_of_none e h)]
  exact e
/-- a tuple stays where its object does -/
theorem tupT_of {K : PySem.W.Frag} {H H' : Hp} {a : Addr} {xs : List V} (h : SqT K H a xs) (k : ∀ u, H a = some u → (∀ ps, u ≠ .tbl ps) → H' a = some u) : SqT K H' a xs :=
  Or.imp_left (Or.imp (fun z => k _ z nofun) fun ⟨o, z⟩ => ⟨o, k _ z nofun⟩) h
theorem seqL_of {K : PySem.W.Frag} {H H' : Hp} {a : Addr} {xs : List V} (h : SqL K H a xs) (k : ∀ u, H a = some u → (∀ ps, u ≠ .tbl ps) → H' a = some u) : SqL K H' a xs :=
  Or.imp_left (Or.imp (fun z => k _ z nofun) fun ⟨o, z⟩ => ⟨o, k _ z nofun⟩) h
theorem _root_.L2.Same.tupT {K : PySem.W.Frag} {H H' : Hp} {a : Addr} {xs : List V} (e : Same H H') (h : SqT K H a xs) : SqT K H' a xs := tupT_of h fun u z _ => e a u z
/-- behind i turns: what stood stands, the new list at D holds the values kept so far -/
def PvS (H1 : Hp) (D : Addr) (g : Nat → Option V) (i : Nat) (H : Hp) : Prop := Same H1 H ∧ H D = some (.lst ((List.range i).filterMap g))
theorem pvs_zero {H1 : Hp} {D : Addr} {g : Nat → Option V} (h : H1 D = none) : PvS H1 D g 0 (upd H1 D (.lst [])) := ⟨same_upd h, upd_same⟩
theorem fm_succ (g : Nat → Option V) (i : Nat) : (List.range (i + 1)).filterMap g = (List.range i).filterMap g ++ (match g i with | some v => [v] | none => []) := by
  rw [List.range_succ, List.filterMap_append]
  congr 1
  cases e : g i <;> simp [List.filterMap, e]
theorem fm_len (g : Nat → Option V) (i : Nat) : ((List.range i).filterMap g).length ≤ i := by
  have h := List.length_filterMap_le g (List.range i)
  rw [List.length_range] at h
  exact h
theorem pvs_push {H1 H H4 : Hp} {D : Addr} {g : Nat → Option V} {i : Nat} {y : V} (hD : H1 D = none) (p : PvS H1 D g i H) (hs : Same H H4) (e : g i = some y) (hi : i < sizeLine) :
    ∃ acc, H4 D = some (.lst acc) ∧ acc.length < sizeLine ∧ PvS H1 D g (i + 1) (upd H4 D (.lst (acc ++ [y]))) := by
  refine ⟨_, hs _ _ p.2, Nat.lt_of_le_of_lt (fm_len g i) hi, fun b o q => ?_, ?_⟩
  · rw [upd_ne (ne_of_none q hD)]
    exact hs _ _ (p.1 _ _ q)
  · rw [upd_same, fm_succ, e]
theorem pvs_skip {H1 H H4 : Hp} {D : Addr} {g : Nat → Option V} {i : Nat} (p : PvS H1 D g i H) (hs : Same H H4) (e : g i = none) : PvS H1 D g (i + 1) H4 := by
  refine ⟨p.1.trans hs, ?_⟩
  rw [fm_succ, e, List.append_nil]
  exact hs _ _ p.2
theorem fm_some (f : Nat → V) (n : Nat) : (List.range n).filterMap (fun i => some (f i)) = (List.range n).map f := by
  induction n with
  | zero => rfl
  | succ n ih => rw [fm_succ, ih, List.range_succ, List.map_append] <;> rfl
/-- all of it is kept: the i-th value is f of the i-th item -/
theorem fm_items {α : Type} (f : α → V) (xs : List α) (g : Nat → Option V) (h : ∀ i x, xs[i]? = some x → g i = some (f x)) : (List.range xs.length).filterMap g = xs.map f := by
  have key : ∀ i, i ≤ xs.length → (List.range i).filterMap g = (xs.take i).map f := by
    intro i
    induction i with
    | zero => intro _; rfl
    | succ i ih =>
      intro hi
      have e : xs[i]? = some xs[i] := List.getElem?_eq_getElem hi
      rw [fm_succ, ih (Nat.le_of_lt hi), h i _ e, List.take_add_one, e, List.map_append]
      rfl
  rw [key _ (Nat.le_refl _), List.take_length]
/-- a part of it is kept -/
theorem fm_filter {α : Type} (f : α → V) (c : α → Bool) (xs : List α) (g : Nat → Option V) (h : ∀ i x, xs[i]? = some x → g i = if c x = true then some (f x) else none) : (List.range xs.length).filterMap g = (xs.filter c).map f := by
  have key : ∀ i, i ≤ xs.length → (List.range i).filterMap g = ((xs.take i).filter c).map f := by
    intro i
    induction i with
    | zero => intro _; rfl
    | succ i ih =>
      intro hi
      have e : xs[i]? = some xs[i] := List.getElem?_eq_getElem hi
      rw [fm_succ, ih (Nat.le_of_lt hi), h i _ e, List.take_add_one, e, List.filter_append, List.map_append]
      by_cases hc : c xs[i] = true
      · rw [if_pos hc]
        show _ ++ [f xs[i]] = _ ++ List.map f (List.filter c [xs[i]])
        rw [List.filter_cons_of_pos hc] <;> rfl
      · rw [if_neg hc]
        show _ ++ [] = _ ++ List.map f (List.filter c [xs[i]])
        rw [List.filter_cons_of_neg hc] <;> rfl
  rw [key _ (Nat.le_refl _), List.take_length]
/-- x, y = .. with two plain local names -/
theorem pg2 {X : Cx} {i j : Nat} {x y : Str} {p q pos : Pos} {k : Nat} (hc : X.calm = true) (hN : X.N.Nodup) (hi : X.N[i]? = some x) (hj : X.N[j]? = some y) (hx : X.env.scope.names.lookup x = some .local) (hy : X.env.scope.names.lookup y = some .local) :
    PG X (.Tuple [.Name x p, .Name y q] k pos) (gTup X.K 2 (gCons (gName i) (gCons (gName j) gNil))) :=
  pg_tup hc (pgs_cons (pg_name hN hi (.inl hx) (.inr hx)) (pgs_cons (pg_name hN hj (.inl hy) (.inr hy)) pgs_nil))
end K14

set_option maxHeartbeats 4000000
/-! data: ints, rows of ints; dividing, free sets as plain functions -/
namespace K14
open PySem PySem.Spec PyProof.Rows L2
/-! ### data -/
def dInts (ns : List Int) : List PyData := ns.map PyData.int
theorem lay_ints : ∀ ns : List Int, PyData.canLayAll0 (dInts ns) = true
  | [] => by simp [dInts, PyData.canLayAll0]
  | n :: r => by
    show PyData.canLayAll0 (PyData.int n :: dInts r) = true
    simp [PyData.canLayAll0, PyData.canLay0, lay_ints r]
theorem depth_ints : ∀ ns : List Int, PyData.depthAll (dInts ns) = 0
  | [] => by simp [dInts, PyData.depthAll]
  | n :: r => by
    show PyData.depthAll (PyData.int n :: dInts r) = 0
    simp [PyData.depthAll, PyData.depth, depth_ints r]
def dRows (ms : List (List Int)) : List PyData := ms.map fun m => PyData.tuple (dInts m)
theorem lay_rows : ∀ ms : List (List Int), PyData.canLayAll0 (dRows ms) = true
  | [] => by simp [dRows, PyData.canLayAll0]
  | m :: r => by
    show PyData.canLayAll0 (PyData.tuple (dInts m) :: dRows r) = true
    simp [PyData.canLayAll0, PyData.canLay0, lay_rows r, lay_ints m]
theorem depth_rows : ∀ ms : List (List Int), PyData.depthAll (dRows ms) ≤ 1
  | [] => by simp [dRows, PyData.depthAll]
  | m :: r => by
    show PyData.depthAll (PyData.tuple (dInts m) :: dRows r) ≤ 1
    have h := depth_rows r
    simp only [PyData.depthAll, PyData.depth, depth_ints m]
    omega
theorem shaped_ints (ns : List Int) : SeqAt.shaped (.list (dInts ns)) = true := by
  unfold SeqAt.shaped
  simp [PyData.canLay0, lay_ints, PyData.depth, depth_ints]
theorem shaped_tup (ns : List Int) : SeqAt.shaped (.tuple (dInts ns)) = true := by
  unfold SeqAt.shaped
  simp [PyData.canLay0, lay_ints, PyData.depth, depth_ints]
theorem shaped_rows (ms : List (List Int)) : SeqAt.shaped (.list (dRows ms)) = true := by
  unfold SeqAt.shaped
  have h := depth_rows ms
  have h2 : PyData.depthAll (dRows ms) + 1 ≤ 64 := by omega
  simp [PyData.canLay0, lay_rows, PyData.depth, h2]
theorem eqv_ints : ∀ xs ys : List Int, PyData.eqvAll (dInts xs) (dInts ys) = decide (xs = ys)
  | [], [] => by simp [dInts, PyData.eqvAll]
  | [], y :: ys => by
    show PyData.eqvAll [] (PyData.int y :: dInts ys) = _
    simp [PyData.eqvAll]
  | x :: xs, [] => by
    show PyData.eqvAll (PyData.int x :: dInts xs) [] = _
    simp [PyData.eqvAll]
  | x :: xs, y :: ys => by
    show PyData.eqvAll (PyData.int x :: dInts xs) (PyData.int y :: dInts ys) = _
    simp only [PyData.eqvAll, PyData.eqv, eqv_ints xs ys]
    by_cases h1 : x = y
    · by_cases h2 : xs = ys
      · simp [h1, h2]
      · simp [h1, h2]
    · simp [h1]
theorem eqv_tup (xs ys : List Int) : PyData.eqv (.tuple (dInts xs)) (.tuple (dInts ys)) = decide (xs = ys) := by
  rw [PyData.eqv]
  exact eqv_ints xs ys
theorem eqv_lst (xs ys : List Int) : PyData.eqv (.list (dInts xs)) (.list (dInts ys)) = decide (xs = ys) := by
  rw [PyData.eqv]
  exact eqv_ints xs ys
theorem eqv_rows_nil (ms : List (List Int)) : PyData.eqv (.list (dRows ms)) (.list (dInts [])) = ms.isEmpty := by
  cases ms with
  | nil => rfl
  | cons m r =>
    rw [PyData.eqv]
    show PyData.eqvAll (PyData.tuple (dInts m) :: dRows r) [] = _
    rw [PyData.eqvAll]
    rfl
theorem any_rows (ms : List (List Int)) (c : List Int) : ((dRows ms).any fun z => PyData.eqv z (.tuple (dInts c))) = decide (c ∈ ms) := by
  unfold dRows
  rw [List.any_map]
  rw [Bool.eq_iff_iff, List.any_eq_true, decide_eq_true_iff]
  constructor
  · intro ⟨m, hm, h⟩
    have h2 : PyData.eqv (.tuple (dInts m)) (.tuple (dInts c)) = true := h
    rw [eqv_tup, decide_eq_true_iff] at h2
    rw [← h2]
    exact hm
  · intro h
    refine ⟨c, h, ?_⟩
    show PyData.eqv (.tuple (dInts c)) (.tuple (dInts c)) = true
    rw [eqv_tup]
    exact decide_eq_true rfl
/-! ### rows in the heap -/
theorem dp_ints {K : PySem.W.Frag} {H : Hp} : ∀ ns : List Int, DpAll K H (ns.map V.int) (dInts ns)
  | [] => .nil
  | n :: r => .cons (.int n) (dp_ints r)
theorem dp_tup {K : PySem.W.Frag} {H : Hp} {a : Addr} {ns : List Int} (h : SqT K H a (ns.map V.int)) : Dp K H (.ref a) (.tuple (dInts ns)) := .tup h (dp_ints ns)
theorem dp_lst {K : PySem.W.Frag} {H : Hp} {a : Addr} {ns : List Int} (h : SqL K H a (ns.map V.int)) : Dp K H (.ref a) (.list (dInts ns)) := .lst h (dp_ints ns)
def Rows (K : PySem.W.Frag) (H : Hp) (as : List Addr) (ms : List (List Int)) : Prop := Paired (fun a m => SqT K H a (m.map V.int)) as ms
theorem Rows.same {K : PySem.W.Frag} {H H' : Hp} (s : Same H H') : ∀ {as : List Addr} {ms : List (List Int)}, Rows K H as ms → Rows K H' as ms
  | _, _, .nil => .nil
  | _, _, .cons h t => .cons (s.tupT h) (Rows.same s t)
theorem Rows.length {K : PySem.W.Frag} {H : Hp} {as : List Addr} {ms : List (List Int)} (r : Rows K H as ms) : as.length = ms.length := Paired.length r
theorem Rows.get {K : PySem.W.Frag} {H : Hp} : ∀ {as : List Addr} {ms : List (List Int)} {i : Nat} {a : Addr}, Rows K H as ms → as[i]? = some a → ∃ m, ms[i]? = some m ∧ SqT K H a (m.map V.int)
  | _, _, _, _, .nil, e => absurd e (by simp)
  | _, _, 0, a, .cons (b := m) h t, e => by
    have e2 := Option.some.inj e
    subst e2
    exact ⟨m, rfl, h⟩
  | _, _, i + 1, a, .cons h t, e => Rows.get (i := i) t e
theorem Rows.getR {K : PySem.W.Frag} {H : Hp} : ∀ {as : List Addr} {ms : List (List Int)} {i : Nat} {m : List Int}, Rows K H as ms → ms[i]? = some m → ∃ a, as[i]? = some a ∧ SqT K H a (m.map V.int)
  | _, _, _, _, .nil, e => absurd e (by simp)
  | _, _, 0, m, .cons (a := a) h t, e => by
    have e2 := Option.some.inj e
    subst e2
    exact ⟨a, rfl, h⟩
  | _, _, i + 1, m, .cons h t, e => Rows.getR (i := i) t e
theorem Rows.append {K : PySem.W.Frag} {H : Hp} : ∀ {as bs : List Addr} {ms ns : List (List Int)}, Rows K H as ms → Rows K H bs ns → Rows K H (as ++ bs) (ms ++ ns)
  | _, _, _, _, .nil, r => r
  | _, _, _, _, .cons h t, r => .cons h (Rows.append t r)
theorem Rows.one {K : PySem.W.Frag} {H : Hp} {a : Addr} {m : List Int} (h : SqT K H a (m.map V.int)) : Rows K H [a] [m] := .cons h .nil
theorem dp_rows {K : PySem.W.Frag} {H : Hp} : ∀ {as : List Addr} {ms : List (List Int)}, Rows K H as ms → DpAll K H (as.map V.ref) (dRows ms)
  | _, _, .nil => .nil
  | _, _, .cons h t => .cons (dp_tup h) (dp_rows t)
theorem ref_get {as : List Addr} {i : Nat} {v : V} (h : (as.map V.ref)[i]? = some v) : ∃ a, v = .ref a ∧ as[i]? = some a := by
  rw [List.getElem?_map] at h
  cases e : as[i]? with
  | none =>
    rw [e] at h
    cases h
  | some a =>
    rw [e] at h
    exact ⟨a, (Option.some.inj h).symm, rfl⟩
theorem map_getD {xs : List Int} {i : Nat} {v : V} (h : (xs.map V.int)[i]? = some v) : v = .int (xs.getD i 0) ∧ i < xs.length := by
  rw [List.getElem?_map] at h
  cases e : xs[i]? with
  | none =>
    rw [e] at h
    cases h
  | some z =>
    rw [e] at h
    have h2 : V.int z = v := Option.some.inj h
    refine ⟨?_, (List.getElem?_eq_some_iff.mp e).1⟩
    rw [← h2, List.getD_eq_getElem?_getD, e] <;> rfl
theorem inV_ints (i : Int) (cs : List Int) : inV (.int i) (cs.map V.int) = decide (i ∈ cs) := by
  unfold inV
  rw [List.any_map, Bool.eq_iff_iff, List.any_eq_true, decide_eq_true_iff]
  constructor
  · intro ⟨c, hc, h⟩
    have h2 : eqV (.int c) (.int i) = true := h
    have h3 : c = i := by
      simpa [eqV] using h2
    rw [← h3]
    exact hc
  · intro h
    exact ⟨i, h, by show eqV (.int i) (.int i) = true; simp [eqV]⟩
theorem flat_ints (cs : List Int) : (cs.map V.int).all flatV = true := by
  rw [List.all_map, List.all_eq_true]
  intro c _
  rfl
theorem small_lt {n : Nat} (h : n ≤ 1000) : n ≤ sizeLine := Nat.le_trans h (by decide)
/-! ### dividing, free sets -/
/-- whether one divides the other, place by place -/
def dv (xs ys : List Int) : Bool := (List.range (min xs.length ys.length)).all fun i => decide (xs.getD i 0 ≤ ys.getD i 0)
/-- whether a letter of the product lies outside of the chosen ones -/
def outs (m cs : List Int) : Bool := (List.range m.length).any fun i => decide (0 < m.getD i 0) && !decide ((i : Int) ∈ cs)
/-- whether the chosen letters are free: no member is made of them alone -/
def isFree (ms : List (List Int)) (cs : List Int) : Bool := ms.all fun m => outs m cs
end K14

set_option maxHeartbeats 4000000
/-! is_free_in, _law_is_free -/
namespace K14
open PySem PySem.Spec PyProof.Rows L2
abbrev sFree : Stmt := top 49
abbrev sLFree : Stmt := top 66
/-- the scope of a comprehension, of the first argument's -/
def lcScope : Expr → Scope
  | .ListComp _ _ sc _ => sc
  | .Call _ (.ListComp _ _ sc _ :: _) _ _ => sc
  | _ => defScope (.Pass ⟨0, 0, 0, 0⟩)
def retE : Stmt → Expr
  | .Return (some e) _ => e
  | _ => .Constant .none 0 ⟨0, 0, 0, 0⟩
def nth (ss : List Stmt) (i : Nat) : Stmt := ss.getD i (.Pass ⟨0, 0, 0, 0⟩)
def spFree (K : PySem.W.Frag) : Sp := fun vs H Q _ => ∃ (a b : Addr) (as : List Addr) (ms : List (List Int)) (cs : List Int), vs = [.ref a, .ref b] ∧ SqT K H a (as.map V.ref) ∧ Rows K H as ms ∧ SqT K H b (cs.map V.int) ∧
  as.length ≤ 1000 ∧ (∀ m ∈ ms, m.length ≤ 1000) ∧ ∀ H', Same H H' → Q (.bl (isFree ms cs)) H'
abbrev teFreeI (K : PySem.W.Frag) : TE := tAndV (tOp (rI0 fun i j => .bl (decide (j < i))) (tVar 4) (tC (.int 0))) (tOp (rIn K true) (tVar 3) (tVar 1))
abbrev teFreeO (K : PySem.W.Frag) : TE := tCB (rAny K) (tCons (tLc (iEnumT K (tCons (tVar 2) tNil)) (gTup K 2 (gCons (gName 3) (gCons (gName 4) gNil))) tYes (teFreeI K) [3, 4]) tNil)
section
variable {P : Program} {w : World} {K : PySem.W.Frag} {mg : Str → Option Value} {base : Heap}
theorem scFree : FnScope ["members", "letters_told", "one", "place", "entry"] ["members", "letters_told"] (defScope sFree) := ⟨rfl, rfl, rfl, by decide +kernel, rfl, by decide +kernel, by decide +kernel⟩
theorem ok_free (S : Src K mg "is_free_in" sFree ["members", "letters_told"]) (B : Bl mg) : Cal P w K mg base CX0 1 "is_free_in" ["members", "letters_told"] (spFree K) := by
  refine cal_of S scFree (fun vs H Q E h => ?_) (fun f cdv A outer s H vs Q E hr h => ?_)
  · obtain ⟨a, b, as, ms, cs, rfl, _⟩ := h
    rfl
  · obtain ⟨a, b, as, ms, cs, rfl, ha, hR, hb, hl, hm, q⟩ := h
    refine ⟨_, pss_one (ps_ret (pe_callB (cr_all rfl) (by rfl) B.all (by decide +kernel) (pa_cons (pe_lc (own := [("one", 2)]) (g := gName 2) (te := teFreeO K) rfl scFree.nd (pi_tup (pv 0))
      (blkOk_by (N := ["members", "letters_told", "one", "place", "entry"]) (sc := defScope sFree) (by decide +kernel))
      (fun _ _ _ _ _ => pg_name (i := 2) scFree.nd rfl (Or.inl rfl)) (fun _ _ _ _ _ => pts_nil)
      (fun _ _ _ _ _ => by exact pe_callB (cr_any rfl) (by rfl) B.any (by decide +kernel) (pa_cons (pe_lc (own := [("place", 3), ("entry", 4)]) (g := gTup K 2 (gCons (gName 3) (gCons (gName 4) gNil))) (te := teFreeI K) rfl scFree.nd (pi_enumT (by rfl) B.enumerate (pa_cons (pv 2) pa_nil))
        (blkOk_by (N := ["members", "letters_told", "one", "place", "entry"]) (sc := relS (lcScope (retE (nth (defBody sFree) 0))) (defScope sFree)) (by decide +kernel))
        (fun _ _ _ _ _ => pg2 (i := 3) (j := 4) rfl scFree.nd rfl rfl rfl rfl) (fun _ _ _ _ _ => pts_nil)
        (fun _ _ _ _ _ => by exact pe_and (pe_cmpR op_gt (pv 4) pe_int (nomark _)) (pe_one (pe_cmpR op_notIn_seq (pv 3) (pv 1) (by rfl))))) pa_nil))) pa_nil))), ?_⟩
    refine ⟨_, rfl, a, rfl, ⟨_, ha⟩, fun D hD => lc_it walk_tup (PvS H D fun i => some (.bl (outs (ms.getD i []) cs))) (pvs_zero hD) (fun i H' _ p => p.1.tupT ha) ?_ ?_⟩
    · rintro i x H1 H2 hi p ⟨rfl, hx⟩
      obtain ⟨a1, rfl, e1⟩ := ref_get hx
      obtain ⟨m, em, hq⟩ := hR.get e1
      have s1 := p.1
      have eg : ms.getD i [] = m := by rw [List.getD_eq_getElem?_getD, em] <;> rfl
      refine ⟨rfl, _, rfl, a1, _, rfl, s1.tupT hq, fun D2 hD2 => lc_it walk_enumT (PvS H2 D2 fun j => some (.bl (decide (0 < m.getD j 0) && !decide ((j : Int) ∈ cs)))) (pvs_zero hD2) (fun j H' _ p => p.1.tupT (s1.tupT hq)) ?_ ?_⟩
      · intro j y H3 H4 hj p2 yy
        obtain ⟨T, vx, vy, rfl, hT, rfl, ex, ey⟩ := yy
        cases ex
        obtain ⟨rfl, h1⟩ := map_getD ey
        refine ⟨T, _, rfl, SqT.of upd_same, rfl, _, _, rfl, _, _, rfl, rfl, rfl, ?_⟩
        refine ⟨_, rfl, _, _, rfl, rfl, _, rfl, ?_⟩
        have hjl : j < sizeLine := Nat.lt_of_lt_of_le (Nat.lt_of_lt_of_le h1 (hm m (List.mem_of_getElem? em))) (by decide)
        refine ite2 (fun c => ?_) (fun c => ?_)
        · refine ⟨_, rfl, _, rfl, b, _, rfl, .inr (((s1.trans p2.1).trans (same_upd hT)).tupT hb), rfl, flat_ints cs, ?_⟩
          refine pvs_push hD2 p2 (same_upd hT) ?_ hjl
          rw [inV_ints, c, Bool.true_and] <;> rfl
        · refine pvs_push hD2 p2 (same_upd hT) ?_ hjl
          have c' : decide (0 < m.getD j 0) = false := by
            cases e : decide (0 < m.getD j 0) with
            | false => rfl
            | true => exact absurd e c
          rw [c', Bool.false_and]
      · intro H3 p2
        refine ⟨D2, (List.range m.length).map (fun j => decide (0 < m.getD j 0) && !decide ((j : Int) ∈ cs)), rfl, SqL.of ?_, ?_⟩
        · rw [p2.2, fm_some, List.map_map, List.length_map]
          rfl
        · refine pvs_push hD p p2.1 ?_ ?_
          · rw [List.any_map, eg]
            rfl
          · have := (List.getElem?_eq_some_iff.mp e1).1
            exact Nat.lt_of_lt_of_le (Nat.lt_of_lt_of_le this hl) (by decide)
    · intro H' p
      have hlen := hR.length
      refine ⟨D, ms.map (fun m => outs m cs), rfl, SqL.of ?_, ?_⟩
      · rw [p.2, List.length_map, hlen, List.map_map]
        rw [fm_items (fun m => V.bl (outs m cs)) ms _ (fun i m e => by rw [List.getD_eq_getElem?_getD, e] <;> rfl)]
        rfl
      · rw [List.all_map]
        exact q H' p.1
/-! _law_is_free -/
abbrev ttLFree (K : PySem.W.Frag) : TT := tAnd (tTest (tOp (rI0 fun i j => .bl (decide (j < i))) (tVar 4) (tC (.int 0)))) (tTest (tOp (rIn K true) (tVar 3) (tVar 1)))
theorem scLFree : FnScope ["_law_members_here", "_law_chosen", "_law_member", "_law_letter", "_law_exponent"] ["_law_members_here", "_law_chosen"] (defScope sLFree) := ⟨rfl, rfl, rfl, by decide +kernel, rfl, by decide +kernel, by decide +kernel⟩
theorem ones_any (c : Nat → Bool) (n : Nat) : decide (((List.range n).filterMap fun i => if c i = true then some (1 : Int) else none) = []) = !(List.range n).any c := by
  rw [Bool.eq_iff_iff, decide_eq_true_iff, Bool.not_eq_true', List.any_eq_false, List.filterMap_eq_nil_iff]
  constructor
  · intro h i hi q
    have h2 := h i hi
    rw [if_pos q] at h2
    cases h2
  · intro h i hi
    exact if_neg (h i hi)
theorem ok_lfree (S : Src K mg "_law_is_free" sLFree ["_law_members_here", "_law_chosen"]) (B : Bl mg) : Cal P w K mg base CX0 1 "_law_is_free" ["_law_members_here", "_law_chosen"] (spFree K) := by
  refine cal_of S scLFree (fun vs H Q E h => ?_) (fun f cdv A outer s H vs Q E hr h => ?_)
  · obtain ⟨a, b, as, ms, cs, rfl, _⟩ := h
    rfl
  · obtain ⟨a, b, as, ms, cs, rfl, ha, hR, hb, hl, hm, q⟩ := h
    refine ⟨_, pss_cons (ps_for PassesOwn.never rfl (pi_tup (pv 0)) (pg_name (i := 2) scLFree.nd rfl (Or.inl rfl))
      (pss_one (ps_if (pt_cmpR (op_eqD hr.units) (pe_lc (own := [("_law_letter", 3), ("_law_exponent", 4)]) (g := gTup K 2 (gCons (gName 3) (gCons (gName 4) gNil))) (tt := ttLFree K) rfl scLFree.nd (pi_enumT (by rfl) B.enumerate (pa_cons (pv 2) pa_nil))
        (blkOk_by (N := ["_law_members_here", "_law_chosen", "_law_member", "_law_letter", "_law_exponent"]) (sc := defScope sLFree) (by decide +kernel))
        (fun _ _ _ _ _ => pg2 (i := 3) (j := 4) rfl scLFree.nd rfl rfl rfl rfl)
        (fun _ _ _ _ _ => pts_one (by exact PW.pt (pw_and (pt_cmpR op_gt (pv 4) pe_int (nomark _)) (pw_and1 (pt_cmpR op_notIn_seq (pv 3) (pv 1) (by rfl))))))
        (fun _ _ _ _ _ => pe_int)) (pe_lst pa_nil) (nomark _)) (pss_one (ps_ret pe_bl)) pss_nil)))
      (pss_one (ps_ret pe_bl)), ?_⟩
    refine ⟨_, rfl, a, rfl, ⟨_, ha⟩, for_tup (fun i σ H' => ∃ v, σ = [some (.ref a), some (.ref b), v, none, none] ∧ Same H H' ∧ ∀ j < i, outs (ms.getD j []) cs = true)
      ⟨none, rfl, Same.refl H, fun j hj => absurd hj (Nat.not_lt_zero _)⟩ (fun i σ H' _ ⟨_, _, s1, _⟩ => s1.tupT ha) ?_ ?_⟩
    · rintro i x σ H1 hx ⟨v, rfl, s1, hall⟩
      obtain ⟨a1, rfl, e1⟩ := ref_get hx
      obtain ⟨m, em, hq⟩ := hR.get e1
      have eg : ms.getD i [] = m := by rw [List.getD_eq_getElem?_getD, em] <;> rfl
      have hml := hm m (List.mem_of_getElem? em)
      refine ⟨_, rfl, a1, _, rfl, s1.tupT hq, fun D2 hD2 => lc_it walk_enumT (PvS H1 D2 fun j => if (decide (0 < m.getD j 0) && !decide ((j : Int) ∈ cs)) = true then some (.int 1) else none) (pvs_zero hD2) (fun j H' _ p => p.1.tupT (s1.tupT hq)) ?_ ?_⟩
      · intro j y H3 H4 hj p2 yy
        obtain ⟨T, vx, vy, rfl, hT, rfl, ex, ey⟩ := yy
        cases ex
        obtain ⟨rfl, h1⟩ := map_getD ey
        refine ⟨T, _, rfl, SqT.of upd_same, rfl, _, _, rfl, _, _, rfl, rfl, rfl, ?_⟩
        refine ⟨_, rfl, _, _, rfl, rfl, _, rfl, ?_⟩
        have hjl : j < sizeLine := Nat.lt_of_lt_of_le (Nat.lt_of_lt_of_le h1 hml) (by decide)
        refine ite2 (fun c => ?_) (fun c => ?_)
        · refine ⟨_, rfl, _, rfl, b, _, rfl, .inr (((s1.trans p2.1).trans (same_upd hT)).tupT hb), rfl, flat_ints cs, _, rfl, ?_⟩
          refine ite2 (fun c2 => ?_) (fun c2 => ?_)
          · have c3 : (!decide ((j : Int) ∈ cs)) = true := by
              rw [← inV_ints]
              exact c2
            refine pvs_push hD2 p2 (same_upd hT) (if_pos ?_) hjl
            rw [c, c3] <;> rfl
          · have c3 : ¬ (!decide ((j : Int) ∈ cs)) = true := by
              rw [← inV_ints]
              exact c2
            refine pvs_skip p2 (same_upd hT) (if_neg fun z => ?_)
            exact c3 (Bool.and_eq_true_iff.mp z).2
        · refine ?_
          show PvS _ _ _ _ _
          exact pvs_skip p2 (same_upd hT) (if_neg fun z => c (Bool.and_eq_true_iff.mp z).1)
      · intro H3 p2
        refine ⟨Nat.zero_le _, fun e he => ?_⟩
        have s2 : Same H3 (upd H3 e (.lst [])) := same_upd he
        have hD3 := s2 _ _ p2.2
        have e2 : ((List.range (m.map V.int).length).filterMap fun j => if (decide (0 < m.getD j 0) && !decide ((j : Int) ∈ cs)) = true then some (V.int 1) else none) =
            ((List.range m.length).filterMap fun j => if (decide (0 < m.getD j 0) && !decide ((j : Int) ∈ cs)) = true then some (1 : Int) else none).map V.int := by
          rw [List.length_map, List.map_filterMap]
          congr 1
          funext j
          split <;> rfl
        rw [e2] at hD3
        refine ⟨_, _, dp_lst (SqL.of hD3), dp_lst (ns := []) (SqL.of upd_same), shaped_ints _, shaped_ints _, _, rfl, ?_⟩
        rw [eqv_lst, ones_any]
        have s3 : Same H _ := (s1.trans p2.1).trans s2
        cases ho : (List.range m.length).any fun j => decide (0 < m.getD j 0) && !decide ((j : Int) ∈ cs) with
        | false =>
          refine iteT ?_
          have ef : isFree ms cs = false := by
            unfold isFree
            rw [List.all_eq_false]
            refine ⟨m, List.mem_of_getElem? em, ?_⟩
            unfold outs
            rw [ho]
            exact Bool.false_ne_true
          have q2 := q _ s3
          rw [ef] at q2
          exact q2
        | true =>
          refine iteF ?_
          refine ⟨some (.ref a1), rfl, s3, fun j hj => ?_⟩
          rcases Nat.lt_succ_iff_lt_or_eq.mp hj with hj | hj
          · exact hall j hj
          · rw [hj, eg]
            exact ho
    · rintro σ H' ⟨v, rfl, s1, hall⟩
      have ef : isFree ms cs = true := by
        unfold isFree
        rw [List.all_eq_true]
        intro m hm2
        obtain ⟨j, hj, e⟩ := List.getElem_of_mem hm2
        have h2 := hall j (by rw [List.length_map, hR.length]; exact hj)
        rw [List.getD_eq_getElem?_getD, List.getElem?_eq_getElem hj] at h2
        rw [← e]
        exact h2
      have q2 := q _ s1
      rw [ef] at q2
      exact q2
end
end K14

set_option maxHeartbeats 4000000
/-! the sets of letters: sets_of, _law_sets -/
namespace K14
open PySem PySem.Spec PyProof.Rows L2
/-! ### the plain lists -/
def setsL : Nat → List (List Int)
  | 0 => [[]]
  | n + 1 => setsL n ++ (setsL n).map fun c => c ++ [(n : Int)]
def setsQ (k : Int) : Nat → List (List Int)
  | 0 => [[]]
  | n + 1 => setsQ k n ++ ((setsQ k n).filter fun c => decide ((c.length : Int) < k)).map fun c => c ++ [(n : Int)]
def setsP (n : Nat) (k : Int) : List (List Int) := (setsQ k n).filter fun c => decide ((c.length : Int) = k)
theorem setsL_len : ∀ n, (setsL n).length = 2 ^ n
  | 0 => rfl
  | n + 1 => by
    show (setsL n ++ (setsL n).map fun c => c ++ [(n : Int)]).length = 2 ^ (n + 1)
    rw [List.length_append, List.length_map, setsL_len n]
    omega
theorem setsQ_len (k : Int) : ∀ n, (setsQ k n).length ≤ 2 ^ n
  | 0 => Nat.le_refl _
  | n + 1 => by
    show (setsQ k n ++ ((setsQ k n).filter fun c => decide ((c.length : Int) < k)).map fun c => c ++ [(n : Int)]).length ≤ 2 ^ (n + 1)
    rw [List.length_append, List.length_map]
    have h1 := setsQ_len k n
    have h2 := List.length_filter_le (fun c : List Int => decide ((c.length : Int) < k)) (setsQ k n)
    omega
theorem pow_256 {n : Nat} (h : n ≤ 8) : 2 ^ n ≤ 256 := Nat.pow_le_pow_right (by decide) h
theorem setsL_in : ∀ (n : Nat) (c : List Int), c ∈ setsL n → c.length ≤ n
  | 0, c, h => by
    have e : c = [] := by simpa [setsL] using h
    rw [e]
    exact Nat.le_refl _
  | n + 1, c, h => by
    rcases List.mem_append.mp h with old | new
    · exact Nat.le_succ_of_le (setsL_in n c old)
    · obtain ⟨d, hd, rfl⟩ := List.mem_map.mp new
      have := setsL_in n d hd
      have one : (d ++ [(n : Int)]).length = d.length + 1 := by simp
      omega
theorem setsQ_in (k : Int) : ∀ (n : Nat) (c : List Int), c ∈ setsQ k n → c.length ≤ n
  | 0, c, h => by
    have e : c = [] := by simpa [setsQ] using h
    rw [e]
    exact Nat.le_refl _
  | n + 1, c, h => by
    rcases List.mem_append.mp h with old | new
    · exact Nat.le_succ_of_le (setsQ_in k n c old)
    · obtain ⟨d, hd, rfl⟩ := List.mem_map.mp new
      have := setsQ_in k n d (List.mem_filter.mp hd).1
      have one : (d ++ [(n : Int)]).length = d.length + 1 := by simp
      omega
/-! ### rows that grow in a new list -/
theorem sqT_upd {K : PySem.W.Frag} {H : Hp} {D a : Addr} {xs ys : List V} {o : HO} (hD : H D = some (.lst ys)) (h : SqT K H a xs) : SqT K (upd H D o) a xs := by
  rcases h with (h | ⟨ob, h⟩) | h
  · refine .inl (.inl ?_)
    rw [upd_ne (ne_of h hD (by intro z; cases z))]
    exact h
  · refine .inl (.inr ⟨ob, ?_⟩)
    rw [upd_ne (ne_of h hD (by intro z; cases z))]
    exact h
  · exact .inr h
theorem Rows.upd {K : PySem.W.Frag} {H : Hp} {D : Addr} {ys : List V} {o : HO} (hD : H D = some (.lst ys)) : ∀ {as : List Addr} {ms : List (List Int)}, Rows K H as ms → Rows K (L2.upd H D o) as ms
  | _, _, .nil => .nil
  | _, _, .cons h t => .cons (sqT_upd hD h) (Rows.upd hD t)
/-- behind j turns: what stood stands, the new list at D holds rows F j -/
def PvR (K : PySem.W.Frag) (H1 : Hp) (D : Addr) (F : Nat → List (List Int)) (j : Nat) (H : Hp) : Prop := Same H1 H ∧ ∃ bs : List Addr, H D = some (.lst (bs.map V.ref)) ∧ Rows K H bs (F j)
theorem pvr_zero {K : PySem.W.Frag} {H1 : Hp} {D : Addr} {F : Nat → List (List Int)} (h : H1 D = none) (e : F 0 = []) : PvR K H1 D F 0 (upd H1 D (.lst [])) := ⟨same_upd h, [], upd_same, by rw [e]; exact .nil⟩
theorem pvr_push {K : PySem.W.Frag} {H1 H H4 : Hp} {D p : Addr} {F : Nat → List (List Int)} {j : Nat} {m : List Int} (hD : H1 D = none) (v : PvR K H1 D F j H) (hs : Same H H4) (hm : SqT K H4 p (m.map V.int)) (e : F (j + 1) = F j ++ [m]) (hl : (F j).length < sizeLine) :
    ∃ acc, H4 D = some (.lst acc) ∧ acc.length < sizeLine ∧ PvR K H1 D F (j + 1) (upd H4 D (.lst (acc ++ [.ref p]))) := by
  obtain ⟨s1, bs, h1, h2⟩ := v
  have h4 := hs _ _ h1
  refine ⟨_, h4, by rw [List.length_map, h2.length]; exact hl, fun b o q => ?_, bs ++ [p], ?_, ?_⟩
  · rw [upd_ne (ne_of_none q hD)]
    exact hs _ _ (s1 _ _ q)
  · rw [upd_same, List.map_append]
    rfl
  · rw [e]
    exact ((h2.same hs).upd h4).append (.one (sqT_upd h4 hm))
theorem pvr_skip {K : PySem.W.Frag} {H1 H H4 : Hp} {D : Addr} {F : Nat → List (List Int)} {j : Nat} (v : PvR K H1 D F j H) (hs : Same H H4) (e : F (j + 1) = F j) : PvR K H1 D F (j + 1) H4 := by
  obtain ⟨s1, bs, h1, h2⟩ := v
  exact ⟨s1.trans hs, bs, hs _ _ h1, by rw [e]; exact h2.same hs⟩
theorem take_snoc {α : Type} {l : List α} {j : Nat} {x : α} (h : l[j]? = some x) : l.take (j + 1) = l.take j ++ [x] := by
  rw [List.take_add_one, h] <;> rfl
/-! ### _law_sets -/
abbrev sLSets : Stmt := top 67
abbrev sSets : Stmt := top 50
def spLSets (K : PySem.W.Frag) : Sp := fun vs H Q _ => ∃ n : Nat, vs = [.int n] ∧ n ≤ 8 ∧ ∀ (H' : Hp) (p : Addr) (as : List Addr), Same H H' → H p = none → H' p = some (.lst (as.map V.ref)) → Rows K H' as (setsL n) → Q (.ref p) H'
def spSets (K : PySem.W.Frag) : Sp := fun vs H Q _ => ∃ (n : Nat) (k : Int), vs = [.int n, .int k] ∧ n ≤ 8 ∧ ∀ (H' : Hp) (p : Addr) (as : List Addr), Same H H' → H p = none → H' p = some (.lst (as.map V.ref)) → Rows K H' as (setsP n k) → Q (.ref p) H'
abbrev rLenS (K : PySem.W.Frag) : List V → Hp → VK → Prop := fun xs H Q => ∃ p ys, xs = [.ref p] ∧ (SqL K H p ys ∨ SqT K H p ys) ∧ Q (.int ys.length) H
section
variable {P : Program} {w : World} {K : PySem.W.Frag} {mg : Str → Option Value} {base : Heap}
theorem scLSets : FnScope ["_law_letters", "_law_found", "_law_letter", "_law_chosen"] ["_law_letters"] (defScope sLSets) := ⟨rfl, rfl, rfl, by decide +kernel, rfl, by decide +kernel, by decide +kernel⟩
theorem cat_step {K : PySem.W.Frag} {H1 H : Hp} {D q p : Addr} {F : Nat → List (List Int)} {j : Nat} {c : List Int} {z : Int} {Q : VK} (hq : H q = none) (hc : SqT K H p (c.map V.int)) (hl : c.length ≤ 1000)
    (k : ∀ H4 x, Same H H4 → SqT K H4 x ((c ++ [z]).map V.int) → Q (.ref x) H4) : rCatA K (.ref p) (.ref q) (upd H q (.tup [.int z])) Q := by
  have s1 : Same H (upd H q (.tup [.int z])) := same_upd hq
  refine ⟨p, q, _, _, rfl, rfl, s1.tupT hc, SqT.of upd_same, ?_, fun e => ?_, (fun _ e => nomatch e), fun _ _ x hx => ?_⟩
  · rw [List.length_map]
    show c.length + 1 ≤ sizeLine
    exact Nat.le_trans (Nat.succ_le_succ hl) (by decide)
  · have e2 : c = [] := List.map_eq_nil_iff.mp e
    rw [e2] at k
    exact k _ _ s1 (SqT.of upd_same)
  · refine k _ _ (s1.trans (same_upd hx)) (SqT.of ?_)
    rw [upd_same, List.map_append]
    rfl
theorem ok_lsets (S : Src K mg "_law_sets" sLSets ["_law_letters"]) (B : Bl mg) : Cal P w K mg base CX0 1 "_law_sets" ["_law_letters"] (spLSets K) := by
  refine cal_of S scLSets (fun vs H Q E h => ?_) (fun f cdv A outer s H vs Q E hr h => ?_)
  · obtain ⟨n, rfl, _⟩ := h
    rfl
  · obtain ⟨n, rfl, hn, q⟩ := h
    refine ⟨_, pss_cons (ps_set (i := 1) scLSets.nd rfl (Or.inl rfl) (pe_lst (pa_cons (pe_tup pa_nil) pa_nil)))
      (pss_cons (ps_for PassesOwn.never rfl (pi_range1 rfl B.range (pa_cons (pv 0) pa_nil)) (pg_name (i := 2) scLSets.nd rfl (Or.inr rfl))
        (pss_one (ps_set (i := 1) scLSets.nd rfl (Or.inl rfl) (pe_op op_cat (pv 1) (pe_lc (own := [("_law_chosen", 3)]) (g := gName 3) (te := tOp (rCatA K) (tVar 3) (tTup (tCons (tVar 2) tNil))) rfl scLSets.nd (pi_list (pv 1))
          (blkOk_by (N := ["_law_letters", "_law_found", "_law_letter", "_law_chosen"]) (sc := defScope sLSets) (by decide +kernel))
          (fun _ _ _ _ _ => pg_name (i := 3) scLSets.nd rfl (Or.inl rfl)) (fun _ _ _ _ _ => pts_nil)
          (fun _ _ _ _ _ => by exact pe_op op_catA (pv 3) (pe_tup (pa_cons (pv 2) pa_nil))))))))
      (pss_one (ps_ret (pv 1)))), ?_⟩
    refine ⟨by show 0 ≤ sizeLine; exact Nat.zero_le _, fun t ht => ⟨by show 1 ≤ sizeLine; decide, fun l hl => ?_⟩⟩
    have s0 : Same H (upd H t (.tup [])) := same_upd ht
    have hl0 : H l = none := s0.free hl
    have s1 : Same H (upd (upd H t (.tup [])) l (.lst [.ref t])) := s0.trans (same_upd hl)
    refine ⟨_, rfl, (n : Int), rfl, by omega, by omega, for_range (fun i σ H' => ∃ (p : Addr) (as : List Addr) (v : Option V), σ = [some (.int (n : Int)), some (.ref p), v, none] ∧ Same H H' ∧ H p = none ∧ H' p = some (.lst (as.map V.ref)) ∧ Rows K H' as (setsL i))
      ⟨l, [t], none, rfl, s1, hl0, upd_same, .cons (SqT.of ?_) .nil⟩ ?_ ?_⟩
    · rw [upd_ne (ne_of_none upd_same hl)]
      exact upd_same
    · rintro i σ H' hi ⟨p, as, v, rfl, s2, hp0, hp, hR⟩
      have hi8 : i < 8 := by
        have : i < n := by simpa using hi
        omega
      have hlenA : as.length = 2 ^ i := by rw [hR.length, setsL_len]
      have h256 : 2 ^ i ≤ 256 := pow_256 (Nat.le_of_lt hi8)
      refine ⟨_, rfl, _, rfl, p, rfl, ⟨_, SqL.of hp⟩, fun D hD => lc_it (walk_list (xs := as.map V.ref)) (PvR K H' D fun j => ((setsL i).take j).map fun c => c ++ [(i : Int)]) (pvr_zero hD rfl) (fun j H3 _ v => v.1.seq (SqL.of hp)) ?_ ?_⟩
      · rintro j x H3 _ hj v2 ⟨rfl, hx⟩
        obtain ⟨a1, rfl, e1⟩ := ref_get hx
        obtain ⟨c, em, hq⟩ := hR.get e1
        have hcl := setsL_in i c (List.mem_of_getElem? em)
        refine ⟨rfl, _, rfl, _, rfl, by show 1 ≤ sizeLine; decide, fun q2 hq2 => ?_⟩
        simp only [show ∀ z : Int, (0 : Int) + z = z from Int.zero_add]
        refine cat_step (D := D) (H1 := H') (F := fun j => ((setsL i).take j).map fun c => c ++ [(i : Int)]) (j := j) hq2 (v2.1.tupT hq) (by omega) fun H4 x s4 hx4 => ?_
        refine pvr_push hD v2 s4 hx4 ?_ ?_
        · show ((setsL i).take (j + 1)).map _ = ((setsL i).take j).map _ ++ _
          rw [take_snoc em, List.map_append]
          rfl
        · have h3 : (((setsL i).take j).map fun c => c ++ [(i : Int)]).length ≤ 256 := by
            rw [List.length_map, List.length_take, setsL_len]
            omega
          exact Nat.lt_of_le_of_lt h3 (by decide)
      · intro H3 v2
        obtain ⟨s3, bs, h1, h2⟩ := v2
        have hp3 := s3 _ _ hp
        have hbl : bs.length ≤ 256 := by
          rw [h2.length, List.length_map, List.length_take, setsL_len]
          omega
        refine ⟨p, D, _, _, rfl, rfl, hp3, h1, ?_, fun z hz => ?_⟩
        · rw [List.length_map, List.length_map, hlenA]
          exact Nat.le_trans (Nat.add_le_add h256 hbl) (by decide)
        · have s4 : Same H3 (upd H3 z (.lst (as.map V.ref ++ bs.map V.ref))) := same_upd hz
          refine ⟨z, as ++ bs, some (.int (0 + (i : Int))), rfl, (s2.trans s3).trans s4, (s2.trans s3).free hz, ?_, ?_⟩
          · rw [upd_same, List.map_append]
          · have h5 : (((setsL i).take (as.map V.ref).length).map fun c => c ++ [(i : Int)]) = (setsL i).map fun c => c ++ [(i : Int)] := by
              rw [List.length_map, hR.length, List.take_length]
            have h6 : Rows K H3 bs (((setsL i).take (as.map V.ref).length).map fun c => c ++ [(i : Int)]) := h2
            rw [h5] at h6
            exact ((hR.same s3).same s4).append (h6.same s4)
    · rintro σ H' ⟨p, as, v, rfl, s2, hp0, hp, hR⟩
      exact ⟨_, rfl, q H' p as s2 hp0 hp (by simpa using hR)⟩
/-! sets_of -/
theorem scSets : FnScope ["letters", "size", "found", "place", "one"] ["letters", "size"] (defScope sSets) := ⟨rfl, rfl, rfl, by decide +kernel, rfl, by decide +kernel, by decide +kernel⟩
theorem filter_take {α : Type} (c : α → Bool) {l : List α} {j : Nat} {x : α} (h : l[j]? = some x) : (l.take (j + 1)).filter c = (l.take j).filter c ++ (if c x = true then [x] else []) := by
  rw [take_snoc h, List.filter_append]
  congr 1
  by_cases hc : c x = true
  · rw [if_pos hc, List.filter_cons_of_pos hc] <;> rfl
  · rw [if_neg hc, List.filter_cons_of_neg hc] <;> rfl
theorem ok_sets (S : Src K mg "sets_of" sSets ["letters", "size"]) (B : Bl mg) : Cal P w K mg base CX0 1 "sets_of" ["letters", "size"] (spSets K) := by
  refine cal_of S scSets (fun vs H Q E h => ?_) (fun f cdv A outer s H vs Q E hr h => ?_)
  · obtain ⟨n, k, rfl, _⟩ := h
    rfl
  · obtain ⟨n, k, rfl, hn, q⟩ := h
    refine ⟨_, pss_cons (ps_set (i := 2) scSets.nd rfl (Or.inl rfl) (pe_lst (pa_cons (pe_tup pa_nil) pa_nil)))
      (pss_cons (ps_for PassesOwn.never rfl (pi_range1 rfl B.range (pa_cons (pv 0) pa_nil)) (pg_name (i := 3) scSets.nd rfl (Or.inr rfl))
        (pss_one (ps_set (i := 2) scSets.nd rfl (Or.inl rfl) (pe_lst (StX.pa_star (pv 2) (StX.pa_star (pe_lc (own := [("one", 4)]) (g := gName 4) (tt := tTest (tOp (rI0 fun i j => .bl (decide (i < j))) (tCB (rLenS K) (tCons (tVar 4) tNil)) (tVar 1))) (te := tTup (StX.tStar K (tVar 4) (tCons (tVar 3) tNil))) rfl scSets.nd (pi_list (pv 2))
          (blkOk_by (N := ["letters", "size", "found", "place", "one"]) (sc := defScope sSets) (by decide +kernel))
          (fun _ _ _ _ _ => pg_name (i := 4) scSets.nd rfl (Or.inl rfl))
          (fun _ _ _ _ _ => pts_one (by exact pt_cmpR op_lt (pe_callB call_len_seq (by rfl) B.len PySem.boot_len (pa_cons (pv 4) pa_nil)) (pv 1) (nomark _)))
          (fun _ _ _ _ _ => by exact pe_tup (StX.pa_star (pv 4) (pa_cons (pv 3) pa_nil)))) pa_nil))))))
      (pss_one (ps_ret (pe_lc (own := [("one", 4)]) (g := gName 4) (tt := tTest (tOp rEq (tCB (rLenS K) (tCons (tVar 4) tNil)) (tVar 1))) (te := tVar 4) rfl scSets.nd (pi_list (pv 2))
          (blkOk_by (N := ["letters", "size", "found", "place", "one"]) (sc := defScope sSets) (by decide +kernel))
          (fun _ _ _ _ _ => pg_name (i := 4) scSets.nd rfl (Or.inl rfl))
          (fun _ _ _ _ _ => pts_one (by exact pt_cmpR op_eq (pe_callB call_len_seq (by rfl) B.len PySem.boot_len (pa_cons (pv 4) pa_nil)) (pv 1) (nomark _)))
          (fun _ _ _ _ _ => by exact pv 4))))), ?_⟩
    refine ⟨by show 0 ≤ sizeLine; exact Nat.zero_le _, fun t ht => ⟨by show 1 ≤ sizeLine; decide, fun l hl => ?_⟩⟩
    have s0 : Same H (upd H t (.tup [])) := same_upd ht
    have hl0 : H l = none := s0.free hl
    have s1 : Same H (upd (upd H t (.tup [])) l (.lst [.ref t])) := s0.trans (same_upd hl)
    refine ⟨_, rfl, (n : Int), rfl, by omega, by omega, for_range (fun i σ H' => ∃ (p : Addr) (as : List Addr) (v : Option V), σ = [some (.int (n : Int)), some (.int k), some (.ref p), v, none] ∧ Same H H' ∧ H p = none ∧ H' p = some (.lst (as.map V.ref)) ∧ Rows K H' as (setsQ k i))
      ⟨l, [t], none, rfl, s1, hl0, upd_same, .cons (SqT.of ?_) .nil⟩ ?_ ?_⟩
    · rw [upd_ne (ne_of_none upd_same hl)]
      exact upd_same
    · rintro i σ H' hi ⟨p, as, v, rfl, s2, hp0, hp, hR⟩
      have hi8 : i < 8 := by
        have : i < n := by simpa using hi
        omega
      have hlenA : as.length ≤ 2 ^ i := by
        rw [hR.length]
        exact setsQ_len k i
      have h256 : 2 ^ i ≤ 256 := pow_256 (Nat.le_of_lt hi8)
      have hlq := setsQ_len k i
      refine ⟨_, rfl, p, _, rfl, .inr (SqL.of hp), _, rfl, p, rfl, ⟨_, SqL.of hp⟩, fun D hD => lc_it (walk_list (xs := as.map V.ref)) (PvR K H' D fun j => (((setsQ k i).take j).filter fun c => decide ((c.length : Int) < k)).map fun c => c ++ [(i : Int)]) (pvr_zero hD rfl) (fun j H3 _ v => v.1.seq (SqL.of hp)) ?_ ?_⟩
      · rintro j x H3 _ hj v2 ⟨rfl, hx⟩
        obtain ⟨a1, rfl, e1⟩ := ref_get hx
        obtain ⟨c, em, hq⟩ := hR.get e1
        have hcl := setsQ_in k i c (List.mem_of_getElem? em)
        have hq3 := v2.1.tupT hq
        refine ⟨rfl, _, rfl, a1, _, rfl, .inr hq3, _, rfl, _, _, rfl, rfl, _, rfl, ?_⟩
        rw [List.length_map]
        have hFl : ((((setsQ k i).take j).filter fun c => decide ((c.length : Int) < k)).map fun c => c ++ [(i : Int)]).length < sizeLine := by
          have h4 := List.length_filter_le (fun c : List Int => decide ((c.length : Int) < k)) ((setsQ k i).take j)
          have h3 : ((((setsQ k i).take j).filter fun c => decide ((c.length : Int) < k)).map fun c => c ++ [(i : Int)]).length ≤ 256 := by
            rw [List.length_map]
            rw [List.length_take] at h4
            omega
          exact Nat.lt_of_le_of_lt h3 (by decide)
        refine ite2 (fun cc => ?_) (fun cc => ?_)
        · refine ⟨_, rfl, a1, _, rfl, .inl hq3, _, rfl, ?_, fun q2 hq2 => ?_⟩
          · show (c.map V.int ++ [V.int (0 + (i : Int))]).length ≤ sizeLine
            rw [List.length_append, List.length_map, List.length_singleton]
            exact Nat.le_trans (show c.length + 1 ≤ 9 by omega) (by decide)
          · have e0 : (0 : Int) + (i : Int) = (i : Int) := Int.zero_add _
            rw [e0]
            refine pvr_push (m := c ++ [(i : Int)]) hD v2 (same_upd hq2) (SqT.of ?_) ?_ hFl
            · rw [upd_same, List.map_append] <;> rfl
            · show (((setsQ k i).take (j + 1)).filter _).map _ = (((setsQ k i).take j).filter _).map _ ++ _
              rw [filter_take _ em, if_pos cc, List.map_append]
              rfl
        · refine pvr_skip v2 (Same.refl _) ?_
          show (((setsQ k i).take (j + 1)).filter _).map _ = (((setsQ k i).take j).filter _).map _
          rw [filter_take _ em, if_neg cc, List.append_nil]
      · intro H3 v2
        obtain ⟨s3, bs, h1, h2⟩ := v2
        have h6 : Rows K H3 bs ((((setsQ k i).take (as.map V.ref).length).filter fun c => decide ((c.length : Int) < k)).map fun c => c ++ [(i : Int)]) := h2
        rw [List.length_map, hR.length, List.take_length] at h6
        have hbl : bs.length ≤ 256 := by
          have h4 := List.length_filter_le (fun c : List Int => decide ((c.length : Int) < k)) (setsQ k i)
          rw [h6.length, List.length_map]
          omega
        refine ⟨D, _, rfl, .inr (SqL.of h1), ?_, fun z hz => ?_⟩
        · rw [List.append_nil, List.length_append, List.length_map, List.length_map]
          exact Nat.le_trans (Nat.add_le_add (Nat.le_trans hlenA h256) hbl) (by decide)
        · rw [List.append_nil]
          have s4 : Same H3 (upd H3 z (.lst (as.map V.ref ++ bs.map V.ref))) := same_upd hz
          refine ⟨z, as ++ bs, some (.int (0 + (i : Int))), rfl, (s2.trans s3).trans s4, (s2.trans s3).free hz, ?_, ?_⟩
          · rw [upd_same, List.map_append]
          · exact ((hR.same s3).same s4).append (h6.same s4)
    · rintro σ H' ⟨p, as, v, rfl, s2, hp0, hp, hR⟩
      have en : ((n : Int).toNat) = n := by omega
      rw [en] at hR
      refine ⟨_, rfl, p, rfl, ⟨_, SqL.of hp⟩, fun D hD => lc_it (walk_list (xs := as.map V.ref)) (PvR K H' D fun j => ((setsQ k n).take j).filter fun c => decide ((c.length : Int) = k)) (pvr_zero hD rfl) (fun j H3 _ v => v.1.seq (SqL.of hp)) ?_ ?_⟩
      · rintro j x H3 _ hj v2 ⟨rfl, hx⟩
        obtain ⟨a1, rfl, e1⟩ := ref_get hx
        obtain ⟨c, em, hq⟩ := hR.get e1
        have hq3 := v2.1.tupT hq
        refine ⟨rfl, _, rfl, a1, _, rfl, .inr hq3, _, rfl, rfl, _, rfl, ?_⟩
        rw [List.length_map]
        have ed : decide (V.int ((c.length : Nat) : Int) = V.int k) = decide ((c.length : Int) = k) := by
          by_cases z : (c.length : Int) = k
          · rw [z, decide_eq_true rfl, decide_eq_true rfl]
          · rw [decide_eq_false z, decide_eq_false (fun y => z (V.int.inj y))]
        rw [ed]
        refine ite2 (fun cc => ?_) (fun cc => ?_)
        · refine ⟨_, rfl, ?_⟩
          refine pvr_push (m := c) hD v2 (Same.refl _) hq3 ?_ ?_
          · show ((setsQ k n).take (j + 1)).filter _ = ((setsQ k n).take j).filter _ ++ _
            rw [filter_take _ em, if_pos cc]
          · have h4 := List.length_filter_le (fun c : List Int => decide ((c.length : Int) = k)) ((setsQ k n).take j)
            have h5 := setsQ_len k n
            have h7 := pow_256 hn
            rw [List.length_take] at h4
            exact Nat.lt_of_le_of_lt (show _ ≤ 256 by omega) (by decide)
        · refine pvr_skip v2 (Same.refl _) ?_
          show ((setsQ k n).take (j + 1)).filter _ = ((setsQ k n).take j).filter _
          rw [filter_take _ em, if_neg cc, List.append_nil]
      · intro H3 v2
        obtain ⟨s3, bs, h1, h2⟩ := v2
        have h6 : Rows K H3 bs (((setsQ k n).take (as.map V.ref).length).filter fun c => decide ((c.length : Int) = k)) := h2
        rw [List.length_map, hR.length, List.take_length] at h6
        exact q H3 D bs (s2.trans s3) (s2.free hD) h1 h6
end
end K14

set_option maxHeartbeats 4000000
/-! next((elt for tg in iter if ..), None) -/
namespace K14
open PySem PySem.Spec PyProof.Rows L2 GenW
/-- the context of a generator expression's code that starts at s -/
abbrev gcx (X : Cx) (A1 : Around) (s : Shared) (H : Hp) (cenv : Env) (fp : List Addr) : Cx :=
  { X with A := A1.deeper cenv, s_0 := s, H_0 := H, env := cenv, outer := X.stack, stack := cenv :: X.stack, ex := fp, fn := fun _ => false, pn := [], xe := fun _ _ => False }
/-! a generator's frame has its maker's cells, and no name of its own yet -/
section
variable {cells : List (Str × Addr)} {sc scope : Scope} {N : List Str} {own : List (Str × Nat)}
theorem clo_in (full : ∀ y, (y, NameKind.free) ∈ scope.names → ∃ c, cells.lookup y = some c) {y : Str} {c : Addr} (e : (cloFrom cells scope.names []).lookup y = some c) : cells.lookup y = some c := by
  rcases cloFrom_mem (PySem.mem_of_lookup e) with z | ⟨free_, at_⟩
  · exact nomatch z
  · obtain ⟨d, hd⟩ := full y free_
    rw [at_, hd] <;> rfl
theorem clo_of (full : ∀ y, (y, NameKind.free) ∈ scope.names → ∃ c, cells.lookup y = some c) {y : Str} (free_ : (y, NameKind.free) ∈ scope.names) : ∃ c, (cloFrom cells scope.names []).lookup y = some c ∧ cells.lookup y = some c :=
  (mem_lookup (cloFrom_has free_)).imp fun _ e => ⟨e, clo_in full e⟩
/-- a name of the maker's that the generator sees and does not have for its own is a free one -/
theorem seen_free (ok : BlkOk N sc scope own) (hN : N.Nodup) {i : Nat} {y : Str} (hi : N[i]? = some y) (no : i ∉ own.map (·.2)) (v : Vis scope y) : (y, NameKind.free) ∈ scope.names := by
  have foreign : ∀ k, scope.names.lookup y = some k → ¬ (k = .local ∨ k = .cell) := fun k hk z => by
    refine (ok.own (y, k) (PySem.mem_of_lookup hk) z).elim (fun among => ?_) fun out => out (List.mem_of_getElem? hi)
    obtain ⟨⟨y', j⟩, hp, rfl⟩ := List.mem_map.mp among
    exact no (List.mem_map.mpr ⟨_, hp, nodup_ix hN (ok.ix _ hp) hi⟩)
  rcases v with v | v | v
  · exact (foreign _ v (.inl rfl)).elim
  · exact (foreign _ v (.inr rfl)).elim
  · exact PySem.mem_of_lookup v
theorem own_free {X : Cx} {pins : List (Addr × Obj)} {σ : L2.St} {H : Hp} {s : Shared} (I : Inv X pins σ H s) (ok : BlkOk X.N X.env.scope scope own) (y : Str × NameKind) (hy : y ∈ scope.names) (e : y.2 = .free) : ∃ c, X.env.cells.lookup y.1 = some c :=
  (ok.free y hy e).elim (fun k => I.ok.has _ (.inl k)) fun k => I.ok.has _ (.inr k)
end
theorem gen_start {X : Cx} {pins : List (Addr × Obj)} {σ : L2.St} {H : Hp} {s : Shared} {scope : Scope} {own : List (Str × Nat)} {fp : List Addr} {code : Value} {h5 : Heap} {g5 : Array GenState} {t5 : Nat} {m : Str → Option Value} (I : Inv X pins σ H s) (ok : BlkOk X.N X.env.scope scope own) (hcell : ∀ y ∈ scope.names, y.2 ≠ .cell) (hN : X.N.Nodup)
    (hfp : ∀ b ∈ fp, FpOk X pins H b ∧ b < s.heap.objs.size) (A1 : Around) (hA1 : A1.handled = X.A.handled) (hA2 : A1.frames = X.A.frames) (kp : ∀ b o, s.heap.get? b = some o → h5.get? b = some o) (hn : h5.Ns s.heap.objs.size m) (hg : AllBare g5) :
    Inv (gcx X A1 s H (genEnv scope (cloFrom X.env.cells scope.names []) s.heap.objs.size code builtinsNs X.env) fp) [] (wipe σ (own.map (·.2))) H { s with heap := h5, gens := g5, toks := t5 } := by
  have full : ∀ y, (y, NameKind.free) ∈ scope.names → ∃ c, X.env.cells.lookup y = some c := fun y hy => own_free I ok _ hy rfl
  have stand : ∀ y c, (cloFrom X.env.cells scope.names []).lookup y = some c → ∃ v, s.heap.IsCell c v := fun y c e => I.cell y c (clo_in full e)
  have fpo : ∀ b ∈ fp, FpOk X pins H b := fun b hb => (hfp b hb).1
  constructor
  case ok =>
    constructor
    case mod => exact I.ok.mod
    case kind => exact ok.kind
    case glob => exact I.ok.glob
    case blt => rfl
    case above => exact Nat.le_refl _
    case inj => exact fun y z c a b => I.ok.inj y z c (clo_in full a) (clo_in full b)
    case has =>
      rintro y (hy | hy)
      · exact absurd rfl (hcell _ (PySem.mem_of_lookup (show scope.names.lookup y = _ from hy)))
      · exact (clo_of full (PySem.mem_of_lookup (show scope.names.lookup y = _ from hy))).imp fun _ z => z.1
    case cab => exact fun _ _ z _ => Bool.noConfusion z
    case hd => exact fun calm => hA1.trans (I.ok.hd calm)
    case frames => exact Around.frames_deeper (hA2.trans I.ok.frames)
    case stk => exact .inr ⟨rfl, rfl⟩
    case exf => exact fun b hb => ⟨Nat.ne_of_lt (hfp b hb).2, fun y c e => (fpo b hb).2.2.2.2.1 y c (clo_in full e)⟩
    case bs => exact I.bs
    case bsz => exact Nat.le_trans I.ok.bsz I.sz
    case noex =>
      intro b o e hb
      rcases (fpo b hb).2.2.2.1 with ex_ | late
      · exact I.ok.noex b o e ex_
      · have early : b < X.s_0.heap.objs.size := Nat.lt_of_lt_of_le (Heap.lt_size e) I.ok.bsz
        exact Nat.not_lt.mpr late early
    case exfs => exact fun b hb z => (List.mem_cons.mp (I.stkSub b z)).elim (fpo b hb).2.1 (fpo b hb).2.2.1
    case funs => exact I.stack
    case frf => exact I.stkFree
  case os => rfl
  case bare => exact hg
  case base => exact Un.kept kp
  case loc =>
    refine ⟨m, hn, fun i y v hi hv vis => ?_⟩
    obtain ⟨old, no⟩ := wipe_some hv
    have free_ := seen_free ok hN hi no (show Vis scope y from vis)
    have above := ok.free _ free_ rfl
    obtain ⟨_, _, told⟩ := I.loc
    obtain ⟨u, ru, at_⟩ := told i y v hi old (.inr above)
    obtain ⟨c, inner, outer⟩ := clo_of full free_
    refine ⟨u, ru, .inr ⟨.inr (ok.uniq _ free_), c, inner, ?_⟩⟩
    rcases at_ with ⟨plain, _⟩ | ⟨_, c', e', cell⟩
    · have plain : X.env.scope.names.lookup y = some .local := plain
      rw [plain] at above
      exact above.elim nofun nofun
    · obtain rfl : c = c' := Option.some.inj (outer.symm.trans e')
      exact cell.keeps kp
  case cell => exact fun y c e => (stand y c e).imp fun _ z => z.keeps kp
  case free => exact I.hok.fresh (Nat.le_refl _)
  case freeC => exact fun y c e => I.freeC y c (clo_in full e)
  case pin => exact fun p hp => nomatch (show p ∈ ([] : List (Addr × Obj)) from hp)
  case hok => exact I.hok.kept kp
  case len => exact (wipe_length _ _).trans I.len
/-! ### the code of the generator, up to its first value -/
def gR (X : Cx) (σ0 : L2.St) (Q : VK) : Nat → Shared → Shared → Prop := fun _ _ s₁ => ∃ H', Inv X [] σ0 H' s₁ ∧ Q .non H'
def gY (X : Cx) (Q : VK) : Protocol := fun _ _ v s₁ _ => ∃ pins σ' y H', Inv X pins σ' H' s₁ ∧ RelV y v ∧ Q y H'
theorem thnX {X : Cx} {α : Type} {t : Sem α} {Q Q' : α → Shared → Prop} {M : Model} {A : Around} {E : Value → Shared → Prop} {s : Shared} (hx : X.xe = fun _ _ => False) (h : wpAny M A t Q X.xe s) (hQ : ∀ a s, Q a s → Q' a s) : wpAny M A t Q' E s :=
  wpAny_mono h hQ fun e s' z => False.elim (by rw [hx] at z; exact z)
theorem seg_nx {X : Cx} {A : Around} {elt tg iter : Expr} {ifs : List Expr} {scope : Scope} {pos : Pos} {it : Addr} {fp : List Addr} {tn : Nat → Heap → Prop} {J : It} {W : Nat → Nat → Hp → Prop} {σ : L2.St} {vs : List Nat} {Q : VK} {g : TG} {tt : TT} {te : TE}
    (hc : X.calm = true) (hx : X.xe = fun _ _ => False) (hpn : X.pn = [])
    (hov : A.over (.compLoop (.GeneratorExp elt [⟨tg, iter, ifs, 0⟩] scope pos) 0 (.ref it) .none X.env) [] = X.A) (hco : X.env.scope.isCoroutine = false)
    (T : Turn X.prog X.w X.K tg J fp it tn) (hex : ∀ b ∈ fp, b ∈ X.ex) (pg : PG X tg g) (pt : PTs X ifs tt) (pe : PE X elt te)
    (turn : ∀ i m H, W i m H → (J.stop i H ∧ Q .non H) ∨ (J.go i H ∧ ∃ Nx : Hp → Prop, (∀ H', Nx H' → ∃ m', m' < m ∧ W (i + 1) m' H') ∧ ∀ x H', J.yld i H x H' → g x (wipe σ vs) H' fun σ2 H2 => wipe σ2 vs = wipe σ vs ∧ tt σ2 H2 fun b H3 => if b = true then te σ2 H3 Q else Nx H3)) :
    ∀ (m i : Nat) (H : Hp) (s s₀ : Shared), W i m H → Inv X [] (wipe σ vs) H s → tn i s.heap → (∀ b ∈ fp, H b = none) →
      Seg (model X.prog X.w) A (fun n s₀ r s₁ => r = .ok .next ∧ gR X (wipe σ vs) Q n s₀ s₁) (gY X Q) 1 s₀ (.compLoop (.GeneratorExp elt [⟨tg, iter, ifs, 0⟩] scope pos) 0 (.ref it) .none X.env)
        ((model X.prog X.w).den (.compLoop (.GeneratorExp elt [⟨tg, iter, ifs, 0⟩] scope pos) 0 (.ref it) .none X.env)) [] s := by
  have stat : ∀ {σ' : L2.St} {H' : Hp} {s' : Shared}, Inv X [] σ' H' s' → (∀ b ∈ fp, H' b = none) → ∀ b ∈ fp, FpOk X [] H' b := fun {σ' H' s'} I' hn b hb =>
    ⟨hn b hb, (I'.ok.exf b (hex b hb)).1, I'.ok.exfs b (hex b hb), .inl (hex b hb), fun x c e => (I'.ok.exf b (hex b hb)).2 x c e, fun p hp => absurd hp (by rw [hpn]; simp)⟩
  -- what stands behind a turn whose tests failed
  have behind : ∀ {i : Nat} {σ8 : L2.St} {H9 : Hp} {s7 s9 : Shared}, tn (i + 1) s7.heap → wipe σ8 vs = wipe σ vs → Inv X ([] ++ pinsAt fp s7.heap) σ8 H9 s9 → Inv X [] (wipe σ vs) H9 s9 ∧ tn (i + 1) s9.heap ∧ ∀ b ∈ fp, H9 b = none := by
    intro i σ8 H9 s7 s9 st7 hw I9
    have pinned : ∀ b ∈ fp, ∀ o, s7.heap.get? b = some o → s9.heap.get? b = some o ∧ H9 b = none := fun b hb o z => by
      have at_ := I9.pin (b, o) (List.mem_append_right _ (List.mem_append_right _ (mem_pinsAt hb z)))
      exact ⟨at_.1, at_.2.1⟩
    refine ⟨(I9.unpinned (pins := [])).weak (by rw [← hw, wipe_length]) fun j v z => (wipe_some (hw ▸ z)).1, T.keep _ _ _ st7 fun b hb o z => (pinned b hb o z).1, fun b hb => ?_⟩
    exact (T.obj _ _ st7 b hb).elim fun o z => (pinned b hb o z.1).2
  have out_ : ∀ v, yieldOut X.env v = yieldValue v := fun v => by simp only [yieldOut, hco, Bool.false_eq_true, if_false]
  refine fun m0 => Nat.strongRecOn m0 fun m ih => ?_
  intro i H s s₀ w I st nf
  show Seg _ A _ _ _ s₀ _ ((compTurn (.GeneratorExp elt [⟨tg, iter, ifs, 0⟩] scope pos) 0 (.ref it) .none X.env).onRaise (leaving X.env)) [] s
  simp only [compTurn_gen, Sem.onRaise_eq_wrap]
  refine seg_bind_wrap (wpAny_standAt (seg_bind_wrap ?_))
  simp only [hov]
  have still := stat I nf
  rcases turn i m H w with ⟨stop, q⟩ | ⟨go, Nx, hNx, step⟩
  · refine thnF (T.done X rfl rfl rfl hc i [] s _ H (fun _ _ => False) I still st stop) ?_
    rintro _ s1 ⟨rfl, I1⟩
    exact seg_end (.ok .next) ⟨rfl, H, I1, q⟩
  refine thnF (T.item X rfl rfl rfl hc i [] s _ H (fun _ _ => False) I still st go) ?_
  rintro _ s6 ⟨u, rfl, drawn⟩
  refine seg_bind_wrap ?_
  simp only [hov]
  refine thnF drawn ?_
  rintro _ s7 ⟨x, H7, I7, r7, y7, st7, n7⟩
  refine seg_bind_wrap ?_
  simp only [hov]
  refine thnX hx (pg.run _ s7 _ H7 x u _ (I7.pinned (stat I7 n7) (T.obj _ _ st7)) r7 (step x H7 y7)) ?_
  rintro _ s8 ⟨σ8, H8, I8, hw8, q8⟩
  refine seg_bind_wrap ?_
  simp only [hov]
  refine thnX hx (pt.run _ s8 σ8 H8 _ I8 q8) ?_
  rintro (_ | _) s9 ⟨H9, I9, q9⟩
  · obtain ⟨m', less, w'⟩ := hNx H9 (by simpa using q9)
    obtain ⟨I0, st9, n9⟩ := behind st7 hw8 I9
    exact seg_again rfl (ih m' less (i + 1) H9 s9 s₀ w' I0 st9 n9)
  · simp only [if_true, out_, Sem.bind_eq_wrap', Sem.wrap_wrap] at q9 ⊢
    refine seg_wrap ?_
    simp only [hov]
    refine thnX hx (pe.run _ s9 σ8 H9 _ I9 q9) ?_
    rintro z s10 ⟨yv, H10, I10, r10, q10⟩
    exact seg_at (seg_yield rfl rfl rfl ⟨_, _, yv, H10, I10, r10, q10⟩)
theorem seg_nx0 {X : Cx} {A : Around} {elt tg iter : Expr} {ifs : List Expr} {scope : Scope} {pos : Pos} {it : Addr} {fp : List Addr} {tn : Nat → Heap → Prop} {J : It} {W : Nat → Nat → Hp → Prop} {σ : L2.St} {vs : List Nat} {Q : VK} {g : TG} {tt : TT} {te : TE}
    (hc : X.calm = true) (hx : X.xe = fun _ _ => False) (hpn : X.pn = [])
    (hov : A.over (.compLoop (.GeneratorExp elt [⟨tg, iter, ifs, 0⟩] scope pos) 0 (.ref it) .none X.env) [] = X.A) (hco : X.env.scope.isCoroutine = false)
    (T : Turn X.prog X.w X.K tg J fp it tn) (hex : ∀ b ∈ fp, b ∈ X.ex) (pg : PG X tg g) (pt : PTs X ifs tt) (pe : PE X elt te)
    (turn : ∀ i m H, W i m H → (J.stop i H ∧ Q .non H) ∨ (J.go i H ∧ ∃ Nx : Hp → Prop, (∀ H', Nx H' → ∃ m', m' < m ∧ W (i + 1) m' H') ∧ ∀ x H', J.yld i H x H' → g x (wipe σ vs) H' fun σ2 H2 => wipe σ2 vs = wipe σ vs ∧ tt σ2 H2 fun b H3 => if b = true then te σ2 H3 Q else Nx H3))
    {m : Nat} {H : Hp} {s s₀ : Shared} (w : W 0 m H) (I : Inv X [] (wipe σ vs) H s) (st : tn 0 s.heap) (nf : ∀ b ∈ fp, H b = none) :
      Seg (model X.prog X.w) A (fun n s₀ r s₁ => r = .ok .next ∧ gR X (wipe σ vs) Q n s₀ s₁) (gY X Q) 1 s₀ (.compStart (.GeneratorExp elt [⟨tg, iter, ifs, 0⟩] scope pos) 0 (.ref it) .none X.env)
        ((model X.prog X.w).den (.compStart (.GeneratorExp elt [⟨tg, iter, ifs, 0⟩] scope pos) 0 (.ref it) .none X.env)) [] s := by
  have loop := seg_nx hc hx hpn hov hco T hex pg pt pe turn m 0 H s s₀ w I st nf
  show Seg _ A _ _ _ s₀ _ ((compStart (.GeneratorExp elt [⟨tg, iter, ifs, 0⟩] scope pos) 0 (.ref it) .none X.env).onRaise (leaving X.env)) [] s
  unfold compStart
  simp only [Sem.onRaise_eq_wrap]
  refine (show Seg _ A _ _ _ s₀ _ ((ask >>= _).wrap _ _ _ _) [] s from seg_bind_wrap (wpAny_askSetting ?_))
  split
  · exact seg_again rfl loop
  · first
      | exact seg_bind_wrap (wpAny_rule (seg_bind_wrap (wpAny_standAt (seg_bind_wrap (T.self _ 0 s _ _ st (seg_again rfl loop))))))
      | (refine seg_bind_wrap (wpAny_rule ?_); show Seg _ A _ _ _ s₀ _ ((standAt iter.pos >>= _).wrap _ _ _ _) [] s; exact seg_bind_wrap (wpAny_standAt (seg_bind_wrap (T.self _ 0 s _ _ st (seg_again rfl loop)))))
/-- the loop's code over an around: the frame's own -/
theorem over_gen {A : Around} {elt : Expr} {cs : List Comprehension} {scope : Scope} {pos : Pos} {it : Value} {env : Env} : A.over (.compLoop (.GeneratorExp elt cs scope pos) 0 it .none env) [] = A.deeper env := by
  first
    | rfl
    | (cases A
       simp [Around.over, Around.deeper, marksOver, frameCount, unitsOf, envsOf, guardsOf, pushEnvs, pushGuards, Code.envs, Code.env?, Code.isFrame, Code.guards, Code.isGuard, Code.weight, Code.frames, Code.isCreation, Code.isCaller, Code.cUnits])
end K14

set_option maxHeartbeats 4000000
/-! next((elt for tg in iter if ..), None): the call -/
namespace K14
open PySem PySem.Spec PyProof.Rows L2 GenW
theorem call_next2 {prog : Program} {w : World} {A : Around} {E : Value → Shared → Prop} {s : Shared} {a : Addr} {g : Nat} {d : Value} {Q : Value → Shared → Prop} (hg : s.heap.IsGen a g)
    (h : wpAny (model prog w) A.in1 (pyNext (.ref a)) (fun r s' => Q (r.getD d) s') E s) : wpAny (model prog w) A (call (.builtin "next") [.ref a, d]) Q E s := by
  refine Calls.call_function_entry (by decide +kernel) (by decide +kernel) PySem.W.kdk_entry_next (PySem.W.kdk_args_next2 _ _) ?_
  unfold Builtin.«next»
  refine wpAny_bind (m := someArgs "next" 1 2 _) (wpAny_of_eq (a := [Value.ref a, d]) (by first | rfl | kernel_rfl!) ?_)
  dsimp only
  refine wpAny_bind (wpAny_specialOf (name := Str.ofString "__next__") hg.typeIs slot_gen_next.lookup ?_)
  exact wpAny_ite_split (fun none_ => absurd none_ (by decide)) fun _ => wpAny_bind (wpAny_mono h (fun _ _ q => wpAny_pure ⟨_, rfl, q⟩) fun _ _ z => z)
def tNextG (P : Addr) (wi : TI) (g : TG) (tt : TT) (te : TE) (vs : List Nat) : TE := fun σ H Q => wi σ H fun J H1 => GxR.TabG H1 P ∧ ∀ H2, GxR.Tabbed P H1 H2 → ∃ W : Nat → Nat → Hp → Prop, (∃ m, W 0 m H2) ∧ ∀ i m H, W i m H →
  (J.stop i H ∧ Q .non H) ∨ (J.go i H ∧ ∃ Nx : Hp → Prop, (∀ H', Nx H' → ∃ m', m' < m ∧ W (i + 1) m' H') ∧ ∀ x H', J.yld i H x H' → g x (wipe σ vs) H' fun σ2 H2 => wipe σ2 vs = wipe σ vs ∧ tt σ2 H2 fun b H3 => if b = true then te σ2 H3 Q else Nx H3)
section
variable {X : Cx}
theorem pe_nextG {c P : Addr} {elt tg iter : Expr} {ifs : List Expr} {scope : Scope} {own : List (Str × Nat)} {p pos gpos cpos : Pos} {kc k : Nat} {wi : TI} {g : TG} {tt : TT} {te : TE}
    (hr : Room (k + 1) X.A) (hc : X.calm = true) (hN : X.N.Nodup) (hgn : Gl X "next") (hm : X.mg "next" = none) (TB : GxR.TabB X.base X.mg c P) (hcode : X.env.code = .ref c)
    (ok : BlkOk X.N X.env.scope scope own) (hcell : ∀ y ∈ scope.names, y.2 ≠ .cell) (hco : scope.isCoroutine = false) (hdot : scope.names.lookup (".0" : Str) = some NameKind.local) (hi : PI X tg iter wi)
    (hg : ∀ (s : Shared) (H : Hp) (C : Addr) (code : Value) (fp : List Addr), PG (gcx X X.A.in1.in1 s H (genEnv scope (cloFrom X.env.cells scope.names []) C code builtinsNs X.env) fp) tg g)
    (ht : ∀ (s : Shared) (H : Hp) (C : Addr) (code : Value) (fp : List Addr), PTs (gcx X X.A.in1.in1 s H (genEnv scope (cloFrom X.env.cells scope.names []) C code builtinsNs X.env) fp) ifs tt)
    (he : ∀ (s : Shared) (H : Hp) (C : Addr) (code : Value) (fp : List Addr), PE (gcx X X.A.in1.in1 s H (genEnv scope (cloFrom X.env.cells scope.names []) C code builtinsNs X.env) fp) elt te)
    (hs : ∀ v, genFold iter X.env v = pure v := by intro _; rfl)
    (he0 : starEach [.GeneratorExp elt [⟨tg, iter, ifs, 0⟩] scope gpos, .Constant .none kc cpos] X.env = (false, eval (.GeneratorExp elt [⟨tg, iter, ifs, 0⟩] scope gpos) X.env) :: starEach [.Constant .none kc cpos] X.env := by rfl)
    (he1 : backTo pos (starEach [.Constant .none kc cpos] X.env) = (false, eval (.Constant .none kc cpos) X.env) :: backTo pos (starEach [] X.env) := by rfl) :
    PE X (.Call (.Name "next" p) [.GeneratorExp elt [⟨tg, iter, ifs, 0⟩] scope gpos, .Constant .none kc cpos] [] pos) (tNextG P wi g tt te (own.map (·.2))) := by
  refine ⟨fun pins s σ H Q I h => ?_⟩
  have hfree := own_free I ok
  refine wpAny_Call_Name_kw (ld_blt (u := .builtin "next") I hgn hm (by first | rfl | decide +kernel) ?_ (by decide) (by decide))
  refine PyProof.Rows.callWith_builtin1 ?_ he0 rfl
  rw [he0]
  show wpAny _ _ (spliced ((false, eval (.GeneratorExp elt [⟨tg, iter, ifs, 0⟩] scope gpos) X.env) :: backTo pos (starEach [.Constant .none kc cpos] X.env))) _ _ s
  rw [he1]
  refine Calls.spliced_cons ?_
  refine wpAny_GeneratorExp_make hco (closure_ok hfree) hcell hdot ok.kind (by have := hr.dp; omega) ?_ hs
  refine thn (hi.run pins s σ H _ I h) fun xv s1 hx => thn hx fun itv s2 h2 => ?_
  obtain ⟨it, fp, tn, J, H2, e, I2, T, st2, f2, ⟨ps, hP, htr⟩, q⟩ := h2
  subst e
  refine ⟨I2.nolimit, ?_⟩
  have hPs : s2.heap.get? P = some { cls := .none, data := .fields ps } := I2.hok P _ hP
  have cd : PySem.W.CodeHd s2.heap c P := TB.code.keeps fun b u e => I2.bk b u e
  have cont : ∀ (code : Value) (h3 : Heap) (tk : Nat) (ps' : Array Value), Heap.ExtBut P s2.heap h3 → h3.get? P = some { cls := .none, data := .fields ps' } → (∃ more, ps' = ps ++ more) → TriplesOk ps'.toList →
      wpAny (model X.prog X.w) X.A (builtinsFor X.env.globals X.env.builtins) (fun bi s4 =>
        ∀ h', h'.Ns s4.heap.objs.size (fun y => if y = ".0" then some (.ref it) else none) → Heap.SameBut s4.heap.objs.size (s4.heap.push { cls := .type "frame", data := .dict #[] }) h' →
          wpAny (model X.prog X.w) X.A (spliced ((false, eval (.Constant .none kc cpos) X.env) :: backTo pos (starEach [] X.env))) (fun vs s₁ => wpAny (model X.prog X.w) X.A (call (.builtin "next") (.ref h'.objs.size :: vs)) (EP X pins σ Q) X.xe s₁) X.xe { s4 with
            gens := s4.gens.push (.fresh (.compStart (.GeneratorExp elt [⟨tg, iter, ifs, 0⟩] scope gpos) 0 (.ref it) .none (genEnv scope (cloFrom X.env.cells scope.names []) s4.heap.objs.size code bi X.env))),
            toks := s4.toks + 1 + 1 + 1,
            heap := h'.push { cls := .type "generator", data := .fields #[.int s4.gens.size 0, .str "<genexpr>" (s4.toks + 1), .str (X.env.qual ++ "<genexpr>") (s4.toks + 1 + 1)] } }) X.xe { s2 with heap := h3, toks := tk } := by
    intro code h3 tk ps' hx hP3 hmore ht3
    obtain ⟨bm, bo, e1, e2, e3, e4, e5, e6, e7, e8⟩ := TB.bm
    obtain ⟨more, em⟩ := hmore
    have keep3 : ∀ b u, b ≠ P → s2.heap.get? b = some u → h3.get? b = some u := fun b u hb e => hx b u hb e
    refine wpAny_builtinsFor (m := X.mg) (by rw [I2.ok.glob]; exact (I2.mod.glob.keeps I2.bk).extBut hx TB.gP) e1 e2 (keep3 _ _ e4 (I2.bk _ _ e5)) e6 e7 e8 ?_
    intro h' hn' hs'
    -- the state ahead of the frame
    have I4 : Inv X pins σ (upd H2 P (.tbl (ps ++ more))) { s2 with heap := h3, toks := tk } := GxR.inv_tab I2 hP keep3 (by rw [← em]; exact hP3) I2.bare
    have hTb : GxR.Tabbed P H2 (upd H2 P (.tbl (ps ++ more))) := ⟨⟨ps ++ more, upd_same, by rw [← em]; exact ht3⟩, fun b hb => upd_ne hb⟩
    obtain ⟨W, ⟨m0, w0⟩, turn⟩ := q _ hTb
    generalize hH4 : upd H2 P (.tbl (ps ++ more)) = H4 at I4 hTb w0
    generalize hs4 : ({ s2 with heap := h3, toks := tk } : Shared) = s4 at I4 hn' hs' ⊢
    have h4 : s4.heap = h3 := by rw [← hs4]
    have f4 : ∀ b ∈ fp, FpOk X pins H4 b ∧ b < s4.heap.objs.size := fun b hb => by
      obtain ⟨o, eo, _⟩ := T.obj _ _ st2 b hb
      have hbP : b ≠ P := fun z => by
        have z2 := (f2 b hb).1
        rw [z, hP] at z2
        cases z2
      refine ⟨⟨?_, (f2 b hb).2⟩, ?_⟩
      · rw [← hH4, upd_ne hbP]
        exact (f2 b hb).1
      · rw [h4]
        exact Heap.lt_size (keep3 b o hbP eo)
    have st4 : tn 0 s4.heap := T.keep _ _ _ st2 fun b hb o e => by
      rw [h4]
      refine keep3 b o (fun z => ?_) e
      have z2 := (f2 b hb).1
      rw [z, hP] at z2
      cases z2
    have keep' : ∀ b o, s4.heap.get? b = some o → h'.get? b = some o := fun b o e => hs'.extBut b o (Nat.ne_of_lt (Heap.lt_size e)) (Heap.get?_push_of_some _ e)
    refine Calls.spliced_cons (PyProof.Rows.Constant_none (Calls.spliced_nil ?_))
    generalize hgo : ({ cls := .type "generator", data := .fields #[.int s4.gens.size 0, .str "<genexpr>" (s4.toks + 1), .str (X.env.qual ++ "<genexpr>") (s4.toks + 1 + 1)] } : Obj) = go
    have keep5 : ∀ b o, s4.heap.get? b = some o → (h'.push go).get? b = some o := fun b o e => Heap.get?_push_of_some _ (keep' b o e)
    have hgen : (h'.push go).IsGen h'.objs.size s4.gens.size := by
      rw [← hgo]
      exact ⟨_, _, _, Heap.get?_push_size _ rfl, rfl, rfl, rfl⟩
    generalize hce : genEnv scope (cloFrom X.env.cells scope.names []) s4.heap.objs.size code builtinsNs X.env = ce
    generalize hgs : GenState.fresh (.compStart (.GeneratorExp elt [⟨tg, iter, ifs, 0⟩] scope gpos) 0 (.ref it) .none ce) = gs
    have bare5 : AllBare (s4.gens.push gs) := I4.bare.push (by rw [← hgs]; rfl)
    have hat : (s4.gens.push gs)[s4.gens.size]? = some gs := Array.getElem?_push_size ..
    refine call_next2 (s := { s4 with gens := s4.gens.push gs, toks := s4.toks + 1 + 1 + 1, heap := h'.push go }) hgen ?_
    have I6 : Inv (gcx X X.A.in1.in1 s4 H4 ce fp) [] (wipe σ (own.map (·.2))) H4 (({ s4 with gens := s4.gens.push gs, toks := s4.toks + 1 + 1 + 1, heap := h'.push go } : Shared).setGen s4.gens.size .running) := by
      rw [← hce]
      exact gen_start (g5 := (({ s4 with gens := s4.gens.push gs, toks := s4.toks + 1 + 1 + 1, heap := h'.push go } : Shared).setGen s4.gens.size .running).gens) (t5 := s4.toks + 1 + 1 + 1) I4 ok hcell hN f4 X.A.in1.in1 rfl rfl keep5 (hn'.push _) (allBare_setGen bare5 rfl)
    have nfp : ∀ b ∈ fp, H4 b = none := fun b hb => (f4 b hb).1.1
    have st6 : tn 0 (h'.push go) := T.keep _ _ _ st4 fun b _ o e => keep5 b o e
    have back : ∀ {pins' σ' H' s'}, Inv (gcx X X.A.in1.in1 s4 H4 ce fp) pins' σ' H' s' → Inv X pins σ H' s' := fun {pins' σ' H' s'} J => I4.call' (ch := fp) J.os J.base J.hok J.bare fun b hb => ⟨(f4 b hb).1.2.2.2.1, (f4 b hb).1.2.1, (f4 b hb).1.2.2.2.2.1, (f4 b hb).1.2.2.2.2.2⟩
    refine wpAny_pyNext_genexpQ (A := X.A.in1) (n := 1) (gs := gs) (P := gR (gcx X X.A.in1.in1 s4 H4 ce fp) (wipe σ (own.map (·.2))) Q) (Y := gY (gcx X X.A.in1.in1 s4 H4 ce fp) Q) hr.hd (I4.nolimit.keeps keep5) (by have := hr.dp; show X.A.depth < _; omega) hgen hat ?_ ?_ ?_
    · subst hgs
      refine ⟨rfl, ?_⟩
      refine seg_nx0 (X := gcx X X.A.in1.in1 s4 H4 ce fp) (W := W) hc rfl rfl over_gen (by show ce.scope.isCoroutine = false; rw [← hce]; exact hco) T (fun b hb => hb) ?_ ?_ ?_ turn w0 I6 st6 nfp
      · rw [← hce]; exact hg s4 H4 _ code fp
      · rw [← hce]; exact ht s4 H4 _ code fp
      · rw [← hce]; exact he s4 H4 _ code fp
    · rintro v s₁ gs' hb ⟨pins', σ', y, H', J, r, qq⟩
      have J2 := back J
      exact ⟨y, H', J2.call (ch := []) (g' := (s₁.setGen s4.gens.size gs').gens) (t' := s₁.toks) (d' := s₁.drawn) Un.refl J2.hok (allBare_setGen J2.bare hb) (fun b hb => absurd hb (by simp)), r, qq⟩
    · rintro s₁ ⟨H', J, qq⟩ h6 hk
      have J2 := back J
      have hbare : AllBare (s₁.setGen s4.gens.size .finished).gens := allBare_setGen J2.bare rfl
      exact ⟨.non, H', Inv.call (s := s₁) (h' := h6) (ch := []) (I := J2) (g' := (s₁.setGen s4.gens.size .finished).gens) (t' := s₁.toks) (d' := s₁.drawn) (Un.kept hk) (J2.hok.kept hk) hbare (fun b hb => absurd hb (by simp)), rfl, qq⟩
  cases here_ : codeAmong gpos ps.toList with
  | none =>
    refine wpAny_genexprCodeX hcode (cd.code hPs htr) (cd.tab hPs) here_ fun c' h' tk hx hge hlt hco' _ htab' _ => ?_
    obtain ⟨o1, vs, f1, tf, fl, tg', inF, tx, tt', op, _, _, _, _, _, _, _, _, _, htr', _⟩ := hco'
    exact cont _ h' tk _ hx htab'.2 ⟨_, rfl⟩ htr'
  | some cv =>
    refine wpAny_genexprCode_hit hcode (cd.code hPs htr) here_ ?_
    exact cont cv s2.heap s2.toks ps (Heap.ExtBut.refl _ _) hPs ⟨#[], by simp⟩ htr
end
end K14

set_option maxHeartbeats 4000000
/-! a def's code table that grows; lots; the plain facts of the sets -/
namespace K14
open PySem PySem.Spec PyProof.Rows L2
/-! ### H' is H, grown, but for the table at P -/
structure ST (P : Addr) (H H' : Hp) : Prop where
  tab : GxR.TabG H P
  tab' : GxR.TabG H' P
  at_ : ∀ b u, b ≠ P → H b = some u → H' b = some u
section
variable {P : Addr} {H H1 H2 : Hp}
theorem ST.refl (t : GxR.TabG H P) : ST P H H := ⟨t, t, fun _ _ _ e => e⟩
theorem ST.keep (s : ST P H H1) {b : Addr} {u : HO} (e : H b = some u) (h : ∀ ps, u ≠ .tbl ps) : H1 b = some u := by
  refine s.at_ b u (fun z => ?_) e
  obtain ⟨ps, hp, _⟩ := s.tab
  rw [z, hp] at e
  exact h ps (Option.some.inj e).symm
theorem tab_same (e : Same H H1) (t : GxR.TabG H P) : GxR.TabG H1 P := by
  obtain ⟨ps, hp, ht⟩ := t
  exact ⟨ps, e _ _ hp, ht⟩
theorem ST.of_same (e : Same H H1) (t : GxR.TabG H P) : ST P H H1 := ⟨t, tab_same e t, fun b u _ q => e b u q⟩
theorem ST.of_tabbed (t : GxR.TabG H P) (e : GxR.Tabbed P H H1) : ST P H H1 := ⟨t, e.1, fun b u n q => by rw [e.2 b n]; exact q⟩
theorem ST.trans (a : ST P H H1) (b : ST P H1 H2) : ST P H H2 := ⟨a.tab, b.tab', fun c u n q => b.at_ c u n (a.at_ c u n q)⟩
theorem ST.same (a : ST P H H1) (b : Same H1 H2) : ST P H H2 := a.trans (.of_same b a.tab')
theorem ST.free (s : ST P H H1) {b : Addr} (e : H1 b = none) : H b = none := by
  cases q : H b with
  | none => rfl
  | some u =>
    by_cases z : b = P
    · obtain ⟨ps, hp, _⟩ := s.tab'
      rw [z, hp] at e
      cases e
    · rw [s.at_ b u z q] at e
      cases e
theorem ST.tupT {K : PySem.W.Frag} {a : Addr} {xs : List V} (s : ST P H H1) (h : SqT K H a xs) : SqT K H1 a xs := tupT_of h fun _ z no => s.keep z no
theorem ST.seq {K : PySem.W.Frag} {a : Addr} {xs : List V} (s : ST P H H1) (h : SqL K H a xs) : SqL K H1 a xs := seqL_of h fun _ z no => s.keep z no
theorem ST.rows {K : PySem.W.Frag} (s : ST P H H1) : ∀ {as : List Addr} {ms : List (List Int)}, Rows K H as ms → Rows K H1 as ms
  | _, _, .nil => .nil
  | _, _, .cons h t => .cons (s.tupT h) (ST.rows s t)
end
/-! ### lots -/
structure LotC (K : PySem.W.Frag) (C : Addr) : Prop where
  cls : SlX.SCls K C
  s0 : ∃ p, SlX.Slot1 K C "own_letters" p 0
  s1 : ∃ p, SlX.Slot1 K C "own_members" p 1
  isi : SlX.SIsi K C
  kit : PySem.W.kitOne K (.ref C) (.ref C) = some true
def LotAt (K : PySem.W.Frag) (H : Hp) (a C : Addr) (n : Nat) (ms : List (List Int)) : Prop :=
  ∃ dx vs M as, H a = some (SlX.SlO a C dx vs) ∧ H dx = some (.xd []) ∧ vs[0]? = some (some (.int (n : Int))) ∧ vs[1]? = some (some (.ref M)) ∧ SqT K H M (as.map V.ref) ∧ Rows K H as ms
theorem LotAt.st {K : PySem.W.Frag} {P : Addr} {H H1 : Hp} {a C : Addr} {n : Nat} {ms : List (List Int)} (l : LotAt K H a C n ms) (s : ST P H H1) : LotAt K H1 a C n ms := by
  obtain ⟨dx, vs, M, as, h1, h2, h3, h4, h5, h6⟩ := l
  refine ⟨dx, vs, M, as, s.keep h1 (fun ps z => ?_), s.keep h2 (fun _ z => nomatch z), h3, h4, s.tupT h5, s.rows h6⟩
  unfold SlX.SlO at z
  cases z
theorem LotAt.slt {K : PySem.W.Frag} {H : Hp} {a C : Addr} {n : Nat} {ms : List (List Int)} (l : LotAt K H a C n ms) :
    ∃ dx vs M as, SlX.Slt H a C dx vs ∧ vs[0]? = some (some (.int (n : Int))) ∧ vs[1]? = some (some (.ref M)) ∧ SqT K H M (as.map V.ref) ∧ Rows K H as ms := by
  obtain ⟨dx, vs, M, as, h1, h2, h3, h4, h5, h6⟩ := l
  exact ⟨dx, vs, M, as, .inr ⟨h1, h2⟩, h3, h4, h5, h6⟩
/-! ### the sets, plain -/
theorem mem_setsQ {k : Int} (hk : 0 ≤ k) : ∀ (n : Nat) (c : List Int), c ∈ setsQ k n ↔ c ∈ setsL n ∧ (c.length : Int) ≤ k
  | 0, c => by
    show c ∈ [[]] ↔ c ∈ [[]] ∧ _
    constructor
    · intro h
      refine ⟨h, ?_⟩
      rw [List.mem_singleton.mp h]
      exact hk
    · exact fun h => h.1
  | n + 1, c => by
    show c ∈ setsQ k n ++ _ ↔ c ∈ setsL n ++ _ ∧ _
    rw [List.mem_append, List.mem_append, List.mem_map, List.mem_map]
    constructor
    · rintro (h | ⟨d, hd, rfl⟩)
      · obtain ⟨h1, h2⟩ := (mem_setsQ hk n c).mp h
        exact ⟨.inl h1, h2⟩
      · obtain ⟨h1, h2⟩ := List.mem_filter.mp hd
        have h3 := of_decide_eq_true h2
        refine ⟨.inr ⟨d, ((mem_setsQ hk n d).mp h1).1, rfl⟩, ?_⟩
        have one : (d ++ [(n : Int)]).length = d.length + 1 := by simp
        omega
    · rintro ⟨h | ⟨d, hd, rfl⟩, h2⟩
      · exact .inl ((mem_setsQ hk n c).mpr ⟨h, h2⟩)
      · rw [List.length_append, List.length_singleton] at h2
        exact .inr ⟨d, List.mem_filter.mpr ⟨(mem_setsQ hk n d).mpr ⟨hd, by omega⟩, decide_eq_true (by omega)⟩, rfl⟩
theorem mem_setsP {k : Int} (hk : 0 ≤ k) (n : Nat) (c : List Int) : c ∈ setsP n k ↔ c ∈ setsL n ∧ (c.length : Int) = k := by
  unfold setsP
  rw [List.mem_filter, mem_setsQ hk, decide_eq_true_iff]
  constructor
  · rintro ⟨⟨h1, _⟩, h2⟩
    exact ⟨h1, h2⟩
  · rintro ⟨h1, h2⟩
    exact ⟨⟨h1, by omega⟩, h2⟩
/-- a free set with the most letters -/
structure Best (n : Nat) (ms : List (List Int)) (c : List Int) : Prop where
  mem : c ∈ setsL n
  free : isFree ms c = true
  max : ∀ d ∈ setsL n, isFree ms d = true → d.length ≤ c.length
theorem Best.len {n : Nat} {ms : List (List Int)} {c d : List Int} (a : Best n ms c) (b : Best n ms d) : c.length = d.length :=
  Nat.le_antisymm (b.max c a.mem a.free) (a.max d b.mem b.free)
/-! ### next: by a walk -/
theorem nx_it {J : It} {n : Nat} {G : Hp → Prop} {Y : Nat → Hp → V → Hp → Prop} (w : Walk J n G Y) {g : TG} {tt : TT} {te : TE} {vs : List Nat} {σ : L2.St} {H2 : Hp} {Q : VK} {Qn : Hp → Prop} (Pv : Nat → Hp → Prop) (h0 : Pv 0 H2) (hG : ∀ i H, i ≤ n → Pv i H → G H)
    (hs : ∀ i x H H', i < n → Pv i H → Y i H x H' → g x (wipe σ vs) H' fun σ2 H2 => wipe σ2 vs = wipe σ vs ∧ tt σ2 H2 fun b H3 => if b = true then te σ2 H3 Q else Pv (i + 1) H3) (hd : ∀ H, Pv n H → Qn H) :
    ∃ W : Nat → Nat → Hp → Prop, (∃ m, W 0 m H2) ∧ ∀ i m H, W i m H →
      (J.stop i H ∧ Qn H) ∨ (J.go i H ∧ ∃ Nx : Hp → Prop, (∀ H', Nx H' → ∃ m', m' < m ∧ W (i + 1) m' H') ∧ ∀ x H', J.yld i H x H' → g x (wipe σ vs) H' fun σ2 H2 => wipe σ2 vs = wipe σ vs ∧ tt σ2 H2 fun b H3 => if b = true then te σ2 H3 Q else Nx H3) := by
  let W : Nat → Nat → Hp → Prop := fun i m H => i + m = n ∧ Pv i H
  refine ⟨W, ⟨n, Nat.zero_add n, h0⟩, ?_⟩
  intro i m H ⟨sum, here⟩
  have stands := hG i H (by omega) here
  cases m with
  | zero =>
    obtain rfl : i = n := by omega
    exact .inl ⟨w.stops H stands, hd H here⟩
  | succ m =>
    have before : i < n := by omega
    refine .inr ⟨w.goes i H before stands, Pv (i + 1), fun H' next => ⟨m, Nat.lt_succ_self m, by omega, next⟩, fun x H' y => ?_⟩
    exact hs i x H H' before here (w.yields i H x H' before stands y)
end K14

set_option maxHeartbeats 4000000
/-! free_set_in, dimension_in -/
namespace K14
open PySem PySem.Spec PyProof.Rows L2
abbrev sFSet : Stmt := top 51
abbrev sDimI : Stmt := top 52
def SrcC (K : PySem.W.Frag) (mg : Str → Option Value) (x : Str) (st : Stmt) (ps : List Str) (c : Addr) : Prop :=
  ∃ f fd, FnP K x st f fd ∧ mg x = some (.ref f) ∧ Binds K fd ps [] ∧ fd.code = .ref c
section
variable {P : Program} {w : World} {K : PySem.W.Frag} {mg : Str → Option Value} {base : Heap}
theorem cal_ofC {N ps : List Str} {k : Nat} {x : Str} {st : Stmt} {sp : Sp} {c : Addr} (S : SrcC K mg x st ps c) (sc : FnScope N ps (defScope st)) (len : ∀ vs H Q E, sp vs H Q E → vs.length = ps.length)
    (hbody : ∀ (f : Addr) (A : Around) (outer : List Env) (s : Shared) (H : Hp) (vs : List V) (Q : VK) (E : XK), Room k (A.deeper (envOfC x (defScope st) s.heap.objs.size f (.ref c))) → sp vs H Q E →
      ∃ t, PSs (cxOf CX0 P w K mg base N x (defScope st) f (.ref c) A outer s H E).nox (defBody st) t ∧ t { nx := fun _ H' => Q .non H', rt := Q } (start N vs) H) : Cal P w K mg base CX0 (k + 1) x ps sp := by
  obtain ⟨f, fd, F, g, b, hc⟩ := S
  refine ⟨f, fd, ?_, g, F.kp, b⟩
  obtain ⟨oc, od, dV, kV, doc, pm, an, cdv, ct, osl, e, lk, hcd, _, _⟩ := F.ex
  subst e
  have e2 : cdv = .ref c := hc
  subst e2
  refine fn_of lk hcd sc len fun A outer s H vs Q E hr hsp => ?_
  obtain ⟨t, h1, h2⟩ := hbody f A outer s H vs Q E hr hsp
  exact ⟨t, h1.nox, h2⟩
def spFSet (P : Addr) (K : PySem.W.Frag) (C : Addr) : Sp := fun vs H Q _ => ∃ (a : Addr) (n : Nat) (ms : List (List Int)), vs = [.ref a] ∧ LotAt K H a C n ms ∧ n ≤ 8 ∧ ms.length ≤ 1000 ∧ (∀ m ∈ ms, m.length ≤ 1000) ∧ GxR.TabG H P ∧
  ((∀ c ∈ setsL n, isFree ms c = false) → ∀ H', ST P H H' → Q .non H') ∧ (∀ c x H', Best n ms c → ST P H H' → SqT K H' x (c.map V.int) → Q (.ref x) H')
theorem scFSet : FnScope ["lot", "size", "found", "one"] ["lot"] (defScope sFSet) := ⟨rfl, rfl, rfl, by decide +kernel, rfl, by decide +kernel, by decide +kernel⟩
abbrev ttFSet (K : PySem.W.Frag) : TT := tB (tCall (spFree K) [] E0 (tCons (SlX.tSl K (tVar 0) "own_members") (tCons (tVar 3) tNil)))
theorem room_gen {k : Nat} {A : Around} {env : Env} (r : Room (k + 1) A) : Room k (A.in1.in1.deeper env) :=
  ⟨r.hd, by have := r.dp; show A.depth + 1 + 3 * k + 5 < _; omega, by have := r.un; show A.units + 1 + 1 + 3 + 16 * k + 200 < _; omega⟩
theorem ok_fset {c PT C : Addr} (S : SrcC K mg "free_set_in" sFSet ["lot"] c) (TB : GxR.TabB base mg c PT) (B : Bl mg) (L : LotC K C) (C1 : Cal P w K mg base CX0 1 "sets_of" ["letters", "size"] (spSets K)) (C2 : Cal P w K mg base CX0 1 "is_free_in" ["members", "letters_told"] (spFree K)) :
    Cal P w K mg base CX0 3 "free_set_in" ["lot"] (spFSet PT K C) := by
  refine cal_ofC S scFSet (fun vs H Q E h => ?_) (fun f A outer s H vs Q E hr h => ?_)
  · obtain ⟨a, n, ms, rfl, _⟩ := h
    rfl
  · obtain ⟨a, n, ms, rfl, hL, hn, hml, hmm, ht, qn, qs⟩ := h
    obtain ⟨p0, S0⟩ := L.s0
    obtain ⟨p1, S1⟩ := L.s1
    refine ⟨_, pss_cons (ps_for PassesOwn.never rfl (pi_range3 rfl B.range (pa_cons (SlX.pe_sl (pv 0)) (pa_cons (pe_un un_neg pe_int) (pa_cons (pe_un un_neg pe_int) pa_nil)))) (pg_name (i := 1) scFSet.nd rfl (Or.inl rfl))
      (pss_cons (ps_set (i := 2) scFSet.nd rfl (Or.inl rfl) (pe_nextG (c := c) (P := PT) (own := [("one", 3)]) (g := gName 3) (tt := ttFSet K) (te := tVar 3) (k := 1) hr rfl scFSet.nd (by rfl) B.next TB rfl
          (blkOk_by (N := ["lot", "size", "found", "one"]) (sc := defScope sFSet) (by decide +kernel)) (by decide +kernel) (by rfl) (by rfl)
          (pi_list (pe_cal C1 (hr.mono (by decide)) pass0 (pa_cons (SlX.pe_sl (pv 0)) (pa_cons (pv 1) pa_nil))))
          (fun _ _ _ _ _ => pg_name (i := 3) scFSet.nd rfl (Or.inl rfl))
          (fun _ _ _ _ _ => pts_one (by exact pt_val (pe_cal C2 (room_gen hr) pass0 (pa_cons (SlX.pe_sl (pv 0)) (pa_cons (pv 3) pa_nil)))))
          (fun _ _ _ _ _ => by exact pv 3)))
      (pss_one (ps_if (pt_cmpR op_notN (pv 2) pe_non (nomark _)) (pss_one (ps_ret (pv 2))) pss_nil))))
      (pss_one (ps_ret pe_non)), ?_⟩
    obtain ⟨dx, ws, M, as, hs, h0, h1, hM, hR⟩ := hL.slt
    refine ⟨_, rfl, a, C, dx, p0, ws, 0, _, rfl, hs, L.cls, S0, h0, 1, rfl, 1, rfl, (n : Int), -1, -1, ((n : Int) - (-1)).toNat, rfl, RgC.neg (by omega) (by omega) (by omega) (by omega),
      for_rangeC (fun i σ H' => ∃ v1 v2, σ = [some (.ref a), v1, v2, none] ∧ ST PT H H' ∧ ∀ d ∈ setsL n, (n : Int) - i < d.length → isFree ms d = false)
        ⟨none, none, rfl, ST.refl ht, fun d hd h => absurd (setsL_in n d hd) (by omega)⟩ ?_ ?_⟩
    · rintro i σ H' hi ⟨v1, v2, rfl, s1, hno⟩
      have hi9 : i ≤ n := by omega
      have hL1 := hL.st s1
      obtain ⟨dx1, ws1, M1, as1, hs1, h01, h11, hM1, hR1⟩ := hL1.slt
      have hsz : (n : Int) + (i : Nat) * (-1) = ((n - i : Nat) : Int) := by omega
      refine ⟨_, rfl, a, C, dx1, p0, ws1, 0, _, rfl, hs1, L.cls, S0, h01, _, rfl, n, _, rfl, hn, fun H2 p bs s2 hp0 hp hRb => ?_⟩
      rw [hsz] at hRb
      have s12 := s1.same s2
      refine ⟨p, rfl, ⟨_, SqL.of hp⟩, s12.tab', fun H3 hT3 => nx_it (g := gName 3) (tt := ttFSet K) (te := tVar 3) (vs := [3]) (walk_list (xs := bs.map V.ref)) (fun j H' => ST PT H2 H' ∧ ∀ d, d ∈ (setsP n ((n - i : Nat) : Int)).take j → isFree ms d = false)
        ⟨ST.of_tabbed s12.tab' hT3, fun d hd => absurd hd (by simp)⟩ (fun j H' _ v => v.1.seq (SqL.of hp)) ?_ ?_⟩
      · rintro j x H4 _ hj ⟨s4, hnj⟩ ⟨rfl, hx⟩
        obtain ⟨a1, rfl, e1⟩ := ref_get hx
        obtain ⟨c1, em, hq⟩ := hRb.get e1
        have hin := (mem_setsP (by omega) n c1).mp (List.mem_of_getElem? em)
        have s14 := s12.trans s4
        obtain ⟨dx4, ws4, M4, as4, hs4, h04, h14, hM4, hR4⟩ := (hL.st s14).slt
        refine ⟨rfl, _, rfl, a, C, dx4, p1, ws4, 1, _, rfl, hs4, L.cls, S1, h14, _, rfl, M4, a1, as4, ms, c1, rfl, hM4, hR4, s4.tupT hq, by rw [hR4.length]; exact hml, hmm, fun H5 s5 => ⟨_, rfl, ?_⟩⟩
        have s15 := s14.same s5
        refine ite2 (fun cc => ?_) (fun cc => ?_)
        · refine ⟨_, rfl, ?_⟩
          refine ⟨_, rfl, rfl, _, rfl, ?_⟩
          refine iteT ⟨_, rfl, ?_⟩
          refine qs c1 a1 _ ⟨hin.1, cc, fun d hd hf => ?_⟩ s15 ((s4.same s5).tupT hq)
          by_cases z : d.length ≤ c1.length
          · exact z
          · rw [hno d hd (by omega)] at hf
            cases hf
        · refine ⟨s4.same s5, fun d hd => ?_⟩
          rw [take_snoc em] at hd
          rcases List.mem_append.mp hd with hd | hd
          · exact hnj d hd
          · rw [List.mem_singleton.mp hd]
            cases e : isFree ms c1 with
            | false => rfl
            | true => exact absurd e cc
      · rintro H4 ⟨s4, hnj⟩
        have s14 := s12.trans s4
        refine ⟨_, rfl, rfl, _, rfl, ?_⟩
        refine iteF ⟨_, _, rfl, s14, fun d hd hlt => ?_⟩
        by_cases z : (n : Int) - i < d.length
        · exact hno d hd z
        · refine hnj d ?_
          rw [List.length_map, hRb.length, List.take_length]
          exact (mem_setsP (by omega) n d).mpr ⟨hd, by omega⟩
    · rintro σ H' ⟨v1, v2, rfl, s1, hno⟩
      refine qn (fun d hd => ?_) H' s1
      exact hno d hd (by omega)
end
end K14

set_option maxHeartbeats 4000000
/-! dimension_in, dimension, is_all_in, require_lot, require_some_left, is_free_set -/
namespace K14
open PySem PySem.Spec PyProof.Rows L2
abbrev sIsAll : Stmt := top 43
abbrev sReqLot : Stmt := top 46
abbrev sDim : Stmt := top 53
abbrev sSome : Stmt := top 54
abbrev sIFS : Stmt := top 56
structure LotD (n : Nat) (ms : List (List Int)) : Prop where
  lo : 1 ≤ n
  hi : n ≤ 8
  len : ms.length ≤ 1000
  rows : ∀ m ∈ ms, m.length = n ∧ ∀ x ∈ m, 0 ≤ x
theorem LotD.short {n : Nat} {ms : List (List Int)} (d : LotD n ms) : ∀ m ∈ ms, m.length ≤ 1000 := fun m h => by
  have := (d.rows m h).1
  have := d.hi
  omega
/-- the lot of all products: one member, of no letter -/
def isAll (ms : List (List Int)) : Bool := decide (ms.length = 1) && (ms.getD 0 []).all fun x => decide (x = 0)
theorem dV (i j : Int) : decide (V.int i = V.int j) = decide (i = j) := decide_eq_decide.mpr ⟨fun h => V.int.inj h, fun h => by rw [h]⟩
def spIsAll (K : PySem.W.Frag) : Sp := fun vs H Q _ => ∃ (a : Addr) (as : List Addr) (ms : List (List Int)), vs = [.ref a] ∧ SqT K H a (as.map V.ref) ∧ Rows K H as ms ∧ (∀ m ∈ ms, 0 < m.length ∧ ∀ x ∈ m, 0 ≤ x) ∧ Q (.bl (isAll ms)) H
def spReqLot (K : PySem.W.Frag) (C : Addr) : Sp := fun vs H Q _ => ∃ (a : Addr) (n : Nat) (ms : List (List Int)), vs = [.ref a] ∧ LotAt K H a C n ms ∧ Q .non H
def spDimI (P : Addr) (K : PySem.W.Frag) (C : Addr) : Sp := fun vs H Q _ => ∃ (a : Addr) (n : Nat) (ms : List (List Int)), vs = [.ref a] ∧ LotAt K H a C n ms ∧ LotD n ms ∧ GxR.TabG H P ∧
  ((∀ c ∈ setsL n, isFree ms c = false) → ∀ H', ST P H H' → Q (.int (-1)) H') ∧ (∀ c H', Best n ms c → ST P H H' → Q (.int c.length) H')
def spSome (K : PySem.W.Frag) (C : Addr) : Sp := fun vs H Q _ => ∃ (a : Addr) (n : Nat) (ms : List (List Int)), vs = [.ref a] ∧ LotAt K H a C n ms ∧ LotD n ms ∧ isAll ms = false ∧ Q .non H
section
variable {P : Program} {w : World} {K : PySem.W.Frag} {mg : Str → Option Value} {base : Heap} {PT C : Addr}
theorem scIsAll : FnScope ["members"] ["members"] (defScope sIsAll) := ⟨rfl, rfl, rfl, by decide +kernel, rfl, by decide +kernel, by decide +kernel⟩
theorem max0 {m : List Int} {M : Int} (h : ∀ x ∈ m, 0 ≤ x) (h1 : M ∈ m) (h2 : ∀ y, y ∈ m → y ≤ M) : decide (M = 0) = m.all fun x => decide (x = 0) := by
  rw [Bool.eq_iff_iff, decide_eq_true_iff, List.all_eq_true]
  constructor
  · intro e x hx
    have a := h x hx
    have b := h2 x hx
    rw [decide_eq_true_iff]
    omega
  · intro e
    exact of_decide_eq_true (e M h1)
theorem ok_isAll (S : Src K mg "is_all_in" sIsAll ["members"]) (B : Bl mg) : Cal P w K mg base CX0 1 "is_all_in" ["members"] (spIsAll K) := by
  refine cal_of S scIsAll (fun vs H Q E h => ?_) (fun f cdv A outer s H vs Q E hr h => ?_)
  · obtain ⟨a, as, ms, rfl, _⟩ := h
    rfl
  · obtain ⟨a, as, ms, rfl, ha, hR, hm, q⟩ := h
    refine ⟨_, pss_one (ps_ret (pe_and (pe_cmpR op_eq (pe_callB call_len_seq (by rfl) B.len PySem.boot_len (pa_cons (pv 0) pa_nil)) pe_int (nomark _))
      (pe_one (pe_cmpR op_eq (pe_callB (cr_maxT rfl) (by rfl) B.max (by decide +kernel) (pa_cons (pe_ix ix_tup (pv 0) pe_int (fun _ _ => rfl)) pa_nil)) pe_int (nomark _))))), ?_⟩
    refine ⟨_, rfl, a, _, rfl, .inr ha, rfl, _, rfl, ?_⟩
    rw [List.length_map, hR.length]
    have ed : decide (((ms.length : Nat) : Int) = 1) = decide (ms.length = 1) := decide_eq_decide.mpr (by omega)
    rw [dV, ed]
    refine ite2 (fun c => ?_) (fun c => ?_)
    · have c' := of_decide_eq_true c
      obtain ⟨m, rfl⟩ := List.length_eq_one_iff.mp c'
      obtain ⟨a1, e1, h1⟩ := hR.getR (i := 0) (m := m) rfl
      have e1' : (as.map V.ref)[0]? = some (.ref a1) := by rw [List.getElem?_map, e1] <;> rfl
      obtain ⟨hp, hz⟩ := hm m (List.mem_singleton.mpr rfl)
      have eA : isAll [m] = m.all fun x => decide (x = 0) := rfl
      rw [eA] at q
      refine ⟨_, rfl, a, _, 0, .ref a1, rfl, rfl, ha, ?_, a1, m, rfl, h1, hp, fun M h2 h3 => ⟨rfl, ?_⟩⟩
      · exact atI_nat e1'
      · rw [dV, max0 hz h2 h3]
        exact q
    · have c' : decide (ms.length = 1) = false := by
        cases e : decide (ms.length = 1) with
        | false => rfl
        | true => exact absurd e c
      unfold isAll at q
      rw [c', Bool.false_and] at q
      exact q
/-! require_lot, dimension_in, dimension, require_some_left -/
theorem scReqLot : FnScope ["value"] ["value"] (defScope sReqLot) := ⟨rfl, rfl, rfl, by decide +kernel, rfl, by decide +kernel, by decide +kernel⟩
theorem ok_reqLot (S : Src K mg "require_lot" sReqLot ["value"]) (B : Bl mg) (L : LotC K C) (g : mg "Lot" = some (.ref C)) : Cal P w K mg base CX0 1 "require_lot" ["value"] (spReqLot K C) := by
  refine cal_of S scReqLot (fun vs H Q E h => ?_) (fun f cdv A outer s H vs Q E hr h => ?_)
  · obtain ⟨a, n, ms, rfl, _⟩ := h
    rfl
  · obtain ⟨a, n, ms, rfl, hL, q⟩ := h
    obtain ⟨dx, ws, M, as, hs, h0, h1, hM, hR⟩ := hL.slt
    refine ⟨_, pss_one (ps_if (pt_not (pt_val (pe_callB (SlX.call_isiSl (.ref C)) (by rfl) B.isinstance (by decide +kernel) (pa_cons (pv 0) (pa_cons (pe_glob (v := .ref C) (by rfl) g rfl) pa_nil))))) (pss_one ps_never) pss_nil), ?_⟩
    exact ⟨_, rfl, a, C, dx, ws, .ref C, true, rfl, rfl, fun _ z => z, hs, L.cls, L.isi, L.kit, _, rfl, iteF q⟩
theorem scDimI : FnScope ["lot", "found"] ["lot"] (defScope sDimI) := ⟨rfl, rfl, rfl, by decide +kernel, rfl, by decide +kernel, by decide +kernel⟩
theorem ok_dimI (S : Src K mg "dimension_in" sDimI ["lot"]) (B : Bl mg) (C1 : Cal P w K mg base CX0 3 "free_set_in" ["lot"] (spFSet PT K C)) : Cal P w K mg base CX0 4 "dimension_in" ["lot"] (spDimI PT K C) := by
  refine cal_of S scDimI (fun vs H Q E h => ?_) (fun f cdv A outer s H vs Q E hr h => ?_)
  · obtain ⟨a, n, ms, rfl, _⟩ := h
    rfl
  · obtain ⟨a, n, ms, rfl, hL, hD, ht, qn, qs⟩ := h
    refine ⟨_, pss_cons (ps_set (i := 1) scDimI.nd rfl (Or.inl rfl) (pe_cal C1 hr pass0 (pa_cons (pv 0) pa_nil)))
      (pss_one (ps_ret (pe_ifExp (pt_cmpR op_isN (pv 1) pe_non (nomark _)) (pe_un un_neg pe_int) (pe_callB call_len_seq (by rfl) B.len PySem.boot_len (pa_cons (pv 1) pa_nil))))), ?_⟩
    refine ⟨_, rfl, a, n, ms, rfl, hL, hD.hi, hD.len, hD.short, ht, fun hno H' s1 => ?_, fun c x H' hb s1 hx => ?_⟩
    · exact ⟨_, rfl, rfl, _, rfl, iteT ⟨1, rfl, qn hno H' s1⟩⟩
    · refine ⟨_, rfl, rfl, _, rfl, iteF ⟨_, rfl, x, _, rfl, .inr hx, ?_⟩⟩
      rw [List.length_map]
      exact qs c H' hb s1
theorem scDim : FnScope ["lot"] ["lot"] (defScope sDim) := ⟨rfl, rfl, rfl, by decide +kernel, rfl, by decide +kernel, by decide +kernel⟩
theorem ok_dim (S : Src K mg "dimension" sDim ["lot"]) (C1 : Cal P w K mg base CX0 1 "require_lot" ["value"] (spReqLot K C)) (C2 : Cal P w K mg base CX0 4 "dimension_in" ["lot"] (spDimI PT K C)) : Cal P w K mg base CX0 5 "dimension" ["lot"] (spDimI PT K C) := by
  refine cal_of S scDim (fun vs H Q E h => ?_) (fun f cdv A outer s H vs Q E hr h => ?_)
  · obtain ⟨a, n, ms, rfl, _⟩ := h
    rfl
  · obtain ⟨a, n, ms, rfl, hL, hD, ht, qn, qs⟩ := h
    refine ⟨_, pss_cons (ps_expr (pe_cal C1 (hr.mono (by decide)) pass0 (pa_cons (pv 0) pa_nil))) (pss_one (ps_ret (pe_cal C2 hr pass0 (pa_cons (pv 0) pa_nil)))), ?_⟩
    exact ⟨_, rfl, a, n, ms, rfl, hL, _, rfl, a, n, ms, rfl, hL, hD, ht, qn, qs⟩
theorem scSome : FnScope ["lot"] ["lot"] (defScope sSome) := ⟨rfl, rfl, rfl, by decide +kernel, rfl, by decide +kernel, by decide +kernel⟩
theorem ok_some (S : Src K mg "require_some_left" sSome ["lot"]) (L : LotC K C) (C1 : Cal P w K mg base CX0 1 "require_lot" ["value"] (spReqLot K C)) (C2 : Cal P w K mg base CX0 1 "is_all_in" ["members"] (spIsAll K)) : Cal P w K mg base CX0 2 "require_some_left" ["lot"] (spSome K C) := by
  refine cal_of S scSome (fun vs H Q E h => ?_) (fun f cdv A outer s H vs Q E hr h => ?_)
  · obtain ⟨a, n, ms, rfl, _⟩ := h
    rfl
  · obtain ⟨a, n, ms, rfl, hL, hD, hA, q⟩ := h
    obtain ⟨p1, S1⟩ := L.s1
    obtain ⟨dx, ws, M, as, hs, h0, h1, hM, hR⟩ := hL.slt
    refine ⟨_, pss_cons (ps_expr (pe_cal C1 hr pass0 (pa_cons (pv 0) pa_nil))) (pss_one (ps_if (pt_val (pe_cal C2 hr pass0 (pa_cons (SlX.pe_sl (pv 0)) pa_nil))) (pss_one ps_never) pss_nil)), ?_⟩
    refine ⟨_, rfl, a, n, ms, rfl, hL, _, rfl, a, C, dx, p1, ws, 1, _, rfl, hs, L.cls, S1, h1, M, as, ms, rfl, hM, hR, fun m hm => ?_, _, rfl, ?_⟩
    · obtain ⟨e1, e2⟩ := hD.rows m hm
      exact ⟨by rw [e1]; exact hD.lo, e2⟩
    · rw [hA]
      exact iteF q
end
end K14

set_option maxHeartbeats 4000000
/-! plain: ascending lists of letters; the sets; the dimension -/
namespace K14
open PySem PySem.Spec PyProof.Rows L2
/-- each one below its next -/
def asc (c : List Int) : Bool := (List.range (min c.length (c.drop 1).length)).all fun i => decide (c.getD i 0 < (c.drop 1).getD i 0)
theorem asc_cons (a b : Int) (r : List Int) : asc (a :: b :: r) = (decide (a < b) && asc (b :: r)) := by
  unfold asc
  have e1 : min (a :: b :: r).length ((a :: b :: r).drop 1).length = min (b :: r).length ((b :: r).drop 1).length + 1 := by
    simp only [List.length_cons, List.drop_succ_cons, List.drop_zero]
    omega
  rw [e1, List.range_succ_eq_map, List.all_cons, List.all_map]
  congr 1
theorem asc_iff : ∀ c : List Int, asc c = true ↔ c.Pairwise (· < ·)
  | [] => by
    constructor
    · intro _
      exact .nil
    · intro _
      rfl
  | [a] => by
    constructor
    · intro _
      exact List.pairwise_singleton _ _
    · intro _
      rfl
  | a :: b :: r => by
    rw [asc_cons, Bool.and_eq_true, decide_eq_true_iff, asc_iff (b :: r), List.pairwise_cons (a := a)]
    constructor
    · rintro ⟨h1, h2⟩
      refine ⟨fun y hy => ?_, h2⟩
      exact (List.mem_cons.mp hy).elim (fun e => e ▸ h1) fun later => Int.lt_trans h1 ((List.pairwise_cons.mp h2).1 y later)
    · rintro ⟨h1, h2⟩
      exact ⟨h1 b List.mem_cons_self, h2⟩
theorem mem_setsL : ∀ (n : Nat) (c : List Int), c ∈ setsL n ↔ (∀ x ∈ c, 0 ≤ x ∧ x < n) ∧ c.Pairwise (· < ·)
  | 0, c => by
    show c ∈ [[]] ↔ _
    rw [List.mem_singleton]
    constructor
    · rintro rfl
      exact ⟨fun x hx => absurd hx (by simp), .nil⟩
    · rintro ⟨h, _⟩
      cases c with
      | nil => rfl
      | cons a r =>
        have := h a List.mem_cons_self
        omega
  | n + 1, c => by
    show c ∈ setsL n ++ (setsL n).map _ ↔ _
    rw [List.mem_append, List.mem_map, mem_setsL n c]
    constructor
    · rintro (⟨h1, h2⟩ | ⟨d, hd, rfl⟩)
      · exact ⟨fun x hx => by have := h1 x hx; omega, h2⟩
      · obtain ⟨h1, h2⟩ := (mem_setsL n d).mp hd
        refine ⟨fun x hx => ?_, List.pairwise_append.mpr ⟨h2, List.pairwise_singleton _ _, fun x hx y hy => ?_⟩⟩
        · rcases List.mem_append.mp hx with old | last
          · have := h1 x old
            omega
          · rw [List.mem_singleton.mp last]
            omega
        · rw [List.mem_singleton.mp hy]
          have := h1 x hx
          omega
    · rintro ⟨h1, h2⟩
      rcases List.eq_nil_or_concat c with rfl | ⟨d, x, ec⟩
      · exact .inl ⟨fun x hx => absurd hx (by simp), .nil⟩
      · rw [List.concat_eq_append] at ec
        subst ec
        obtain ⟨p1, _, p3⟩ := List.pairwise_append.mp h2
        have hx := h1 x (by simp)
        have hdx : ∀ y ∈ d, y < x := fun y hy => p3 y hy x (by simp)
        by_cases e : x = n
        · refine .inr ⟨d, (mem_setsL n d).mpr ⟨fun y hy => ?_, p1⟩, by rw [e]⟩
          have a := hdx y hy
          have b := h1 y (by simp [hy])
          omega
        · refine .inl ⟨fun y hy => ?_, h2⟩
          rcases List.mem_append.mp hy with old | last
          · have a := hdx y old
            have b := h1 y (by simp [old])
            omega
          · rw [List.mem_singleton.mp last]
            omega
/-- a value among range(n), as the program looks -/
def within (n : Nat) : V → Bool
  | .int i => decide (0 ≤ i) && decide (i ≤ (n : Int) - 1)
  | _ => false
def isIB (v : V) : Prop := (∃ i, v = .int i) ∨ ∃ b, v = .bl b
theorem both_true {a b : Bool} (h : (a && b) = true) : a = true ∧ b = true := Bool.and_eq_true_iff.mp h
theorem within_ints {n : Nat} : ∀ {xs : List V}, xs.all (within n) = true → ∃ c : List Int, xs = c.map V.int ∧ ∀ x ∈ c, 0 ≤ x ∧ x < n
  | [], _ => ⟨[], rfl, fun x hx => absurd hx (by simp)⟩
  | v :: r, h => by
    rw [List.all_cons] at h
    replace h := both_true h
    obtain ⟨c, e, hc⟩ := within_ints h.2
    cases v with
    | int i =>
      have h1 := h.1
      unfold within at h1
      rw [Bool.and_eq_true, decide_eq_true_iff, decide_eq_true_iff] at h1
      refine ⟨i :: c, by rw [e]; rfl, fun x hx => ?_⟩
      rcases List.mem_cons.mp hx with z | hx
      · rw [z]
        omega
      · exact hc x hx
    | _ => cases h.1
theorem within_of {n : Nat} {c : List Int} (h : ∀ x ∈ c, 0 ≤ x ∧ x < n) : (c.map V.int).all (within n) = true := by
  rw [List.all_map, List.all_eq_true]
  intro x hx
  have := h x hx
  show (decide (0 ≤ x) && decide (x ≤ (n : Int) - 1)) = true
  rw [decide_eq_true (by omega), decide_eq_true (by omega)]
  rfl
theorem ints_inj : ∀ {c d : List Int}, c.map V.int = d.map V.int → c = d
  | [], [], _ => rfl
  | [], _ :: _, h => by cases h
  | _ :: _, [], h => by cases h
  | a :: c, b :: d, h => by
    injection h with h1 h2
    rw [V.int.inj h1, ints_inj h2]
/-- what is_free_set answers -/
theorem best_iff {n : Nat} {ms : List (List Int)} {c d : List Int} (h : ∀ x ∈ c, 0 ≤ x ∧ x < n) (ha : asc c = true) (b : Best n ms d) : (c.length = d.length ∧ isFree ms c = true) ↔ Best n ms c := by
  constructor
  · rintro ⟨h1, h2⟩
    exact ⟨(mem_setsL n c).mpr ⟨h, (asc_iff c).mp ha⟩, h2, fun e he hf => by rw [h1]; exact b.max e he hf⟩
  · intro h1
    exact ⟨h1.len b, h1.free⟩
theorem best_asc {n : Nat} {ms : List (List Int)} {c : List Int} (b : Best n ms c) : (∀ x ∈ c, 0 ≤ x ∧ x < n) ∧ asc c = true :=
  let ⟨h1, h2⟩ := (mem_setsL n c).mp b.mem
  ⟨h1, (asc_iff c).mpr h2⟩
theorem cut1 (xs : List V) : cutV xs (some 1) none = xs.drop 1 := by
  unfold cutV
  have e1 : HT.sIx xs.length 0 (some 1) = min 1 xs.length := HT.sIx_nat xs.length 0 1
  have e2 : HT.sIx xs.length xs.length none = xs.length := rfl
  rw [e1, e2]
  cases xs with
  | nil => rfl
  | cons a r =>
    have e3 : min 1 (a :: r).length = 1 := by simp
    rw [e3]
    show List.take ((a :: r).length - 1) r = r
    simp
theorem cut1_whole {xs : List V} (h : HT.sIx xs.length 0 (some 1) = 0 ∧ HT.sIx xs.length xs.length none = xs.length) : xs.drop 1 = xs := by
  have e1 : HT.sIx xs.length 0 (some 1) = min 1 xs.length := HT.sIx_nat xs.length 0 1
  cases xs with
  | nil => rfl
  | cons a r =>
    have e3 : min 1 (a :: r).length = 1 := by simp
    rw [e1, e3] at h
    cases h.1
end K14

set_option maxHeartbeats 4000000
/-! is_free_set -/
namespace K14
open PySem PySem.Spec PyProof.Rows L2
def spIFS (P : Addr) (K : PySem.W.Frag) (C : Addr) : Sp := fun vs H Q _ => ∃ (a : Addr) (v : V) (n : Nat) (ms : List (List Int)) (d : List Int), vs = [.ref a, v] ∧ LotAt K H a C n ms ∧ LotD n ms ∧ isAll ms = false ∧ Best n ms d ∧ GxR.TabG H P ∧
  ((∃ T, TyX K H v (.type T) ∧ kitB T "tuple" = some false ∧ Q (.bl false) H) ∨
   (∃ x xs, v = .ref x ∧ SqT K H x xs ∧ TyX K H v (.type "tuple") ∧ xs.length ≤ 1000 ∧ (∀ y ∈ xs, isIB y) ∧ ∀ b H', (b = true ↔ ∃ c : List Int, xs = c.map V.int ∧ Best n ms c) → ST P H H' → Q (.bl b) H'))
section
variable {P : Program} {w : World} {K : PySem.W.Frag} {mg : Str → Option Value} {base : Heap} {PT C : Addr}
theorem scIFS : FnScope ["lot", "value", "place", "one", "other"] ["lot", "value"] (defScope sIFS) := ⟨rfl, rfl, rfl, by decide +kernel, rfl, by decide +kernel, by decide +kernel⟩
abbrev teIFS (K : PySem.W.Frag) : TE := tCall spWithin [] E0 (tCons (tVar 2) (tCons (tC (.int 0)) (tCons (tOp (rI0 fun i j => .int (i - j)) (SlX.tSl K (tVar 0) "own_letters") (tC (.int 1))) tNil)))
theorem ok_ifs (S : Src K mg "is_free_set" sIFS ["lot", "value"]) (B : Bl mg) (L : LotC K C) (C1 : Cal P w K mg base CX0 2 "require_some_left" ["lot"] (spSome K C)) (C2 : Cal P w K mg base CX0 2 "is_within" ["value", "least", "greatest"] spWithin)
    (C3 : Cal P w K mg base CX0 4 "dimension_in" ["lot"] (spDimI PT K C)) (C4 : Cal P w K mg base CX0 1 "is_free_in" ["members", "letters_told"] (spFree K)) :
    Cal P w K mg base CX0 5 "is_free_set" ["lot", "value"] (spIFS PT K C) := by
  refine cal_of S scIFS (fun vs H Q E h => ?_) (fun f cdv A outer s H vs Q E hr h => ?_)
  · obtain ⟨a, v, n, ms, d, rfl, _⟩ := h
    rfl
  · obtain ⟨a, v, n, ms, d, rfl, hL, hD, hA, hB, ht, q⟩ := h
    obtain ⟨p0, S0⟩ := L.s0
    obtain ⟨p1, S1⟩ := L.s1
    obtain ⟨dx, ws, M, as, hs, h0, h1, hM, hR⟩ := hL.slt
    refine ⟨_, pss_cons (ps_expr (pe_cal C1 (hr.mono (by decide)) pass0 (pa_cons (pv 0) pa_nil)))
      (pss_cons (ps_if (PW.pt (pw_or (pt_not (pt_val (pe_callB call_isi (by rfl) B.isinstance (by decide +kernel) (pa_cons (pv 1) (pa_cons (pe_bltn (v := .ty "tuple") (by rfl) B.tuple (by decide +kernel) rfl) pa_nil)))))
        (pw_or1 (pt_not (pt_val (pe_callB (cr_all rfl) (by rfl) B.all (by decide +kernel) (pa_cons (pe_lc (own := [("place", 2)]) (g := gName 2) (te := teIFS K) rfl scIFS.nd (pi_tup (pv 1))
          (blkOk_by (N := ["lot", "value", "place", "one", "other"]) (sc := defScope sIFS) (by decide +kernel))
          (fun _ _ _ _ _ => pg_name (i := 2) scIFS.nd rfl (Or.inl rfl)) (fun _ _ _ _ _ => pts_nil)
          (fun _ _ _ _ _ => by exact pe_cal C2 (hr.mono (by decide)) pass0 (pa_cons (pv 2) (pa_cons pe_int (pa_cons (pe_op op_sub (SlX.pe_sl (pv 0)) pe_int) pa_nil))))) pa_nil)))))))
        (pss_one (ps_ret pe_bl)) pss_nil)
      (pss_cons (ps_if (pt_not (pt_val (pe_callB (cr_all rfl) (by rfl) B.all (by decide +kernel) (pa_cons (pe_lc (own := [("one", 3), ("other", 4)]) (g := gTup K 2 (gCons (gName 3) (gCons (gName 4) gNil))) (te := tOp (rI0 fun i j => .bl (decide (i < j))) (tVar 3) (tVar 4)) rfl scIFS.nd
          (RZ.pi_zipA (by rfl) B.zip (pa_cons (pv 1) (pa_cons (pe_slice sl_tupA (pv 1) (po_some pe_int) po_none) pa_nil)))
          (blkOk_by (N := ["lot", "value", "place", "one", "other"]) (sc := defScope sIFS) (by decide +kernel))
          (fun _ _ _ _ _ => pg2 (i := 3) (j := 4) rfl scIFS.nd rfl rfl rfl rfl) (fun _ _ _ _ _ => pts_nil)
          (fun _ _ _ _ _ => by exact pe_cmpR op_lt (pv 3) (pv 4) (nomark _))) pa_nil))))
        (pss_one (ps_ret pe_bl)) pss_nil)
      (pss_one (ps_ret (pe_and (pe_cmpR op_eq (pe_callB call_len_seq (by rfl) B.len PySem.boot_len (pa_cons (pv 1) pa_nil)) (pe_cal C3 hr pass0 (pa_cons (pv 0) pa_nil)) (nomark _))
        (pe_one (pe_cal C4 (hr.mono (by decide)) pass0 (pa_cons (SlX.pe_sl (pv 0)) (pa_cons (pv 1) pa_nil))))))))), ?_⟩
    refine ⟨_, rfl, a, n, ms, rfl, hL, hD, hA, ?_⟩
    rcases q with ⟨T, hT, hk, q⟩ | ⟨x, xs, rfl, hx, hT, hlen, hib, q⟩
    · exact ⟨_, rfl, _, _, _, _, false, rfl, .ty "tuple", hT, kit_ty hk, _, rfl, iteT q⟩
    · refine ⟨_, rfl, _, _, _, _, true, rfl, .ty "tuple", hT, kit_ty (by decide +kernel), _, rfl, iteF ?_⟩
      refine ⟨_, rfl, x, rfl, ⟨_, hx⟩, fun D hDn => lc_it walk_tup (PvS H D fun i => some (.bl (within n (xs.getD i .non)))) (pvs_zero hDn) (fun i H' _ p => p.1.tupT hx) ?_ ?_⟩
      · rintro i y H1 H2 hi p ⟨rfl, hy⟩
        have s1 := ST.of_same p.1 ht
        obtain ⟨dx1, ws1, M1, as1, hs1, h01, h11, hM1, hR1⟩ := (hL.st s1).slt
        have ey : xs.getD i .non = y := by rw [List.getD_eq_getElem?_getD, hy] <;> rfl
        have hi2 : i < sizeLine := Nat.lt_of_lt_of_le (Nat.lt_of_lt_of_le hi hlen) (by decide)
        refine ⟨rfl, _, rfl, _, rfl, a, C, dx1, p0, ws1, 0, _, rfl, hs1, L.cls, S0, h01, _, _, rfl, rfl, y, 0, _, rfl, ?_⟩
        rcases hib y (List.mem_of_getElem? hy) with ⟨z, rfl⟩ | ⟨z, rfl⟩
        · refine .inl ⟨z, rfl, pvs_push hDn p (Same.refl _) ?_ hi2⟩
          rw [ey] <;> rfl
        · refine .inr ⟨z, rfl, pvs_push hDn p (Same.refl _) ?_ hi2⟩
          rw [ey] <;> rfl
      · intro H1 p
        have s1 := ST.of_same p.1 ht
        refine ⟨D, xs.map (within n), rfl, SqL.of ?_, _, rfl, ?_⟩
        · rw [p.2, fm_items (fun v => V.bl (within n v)) xs _ (fun i m e => by rw [List.getD_eq_getElem?_getD, e] <;> rfl), List.map_map]
          rfl
        · refine ite2 (fun cc => ?_) (fun cc => ?_)
          · have hw : xs.all (within n) = false := by
              have c2 : (!(xs.map (within n)).all (fun b => b)) = true := cc
              rw [Bool.not_eq_true', List.all_map] at c2
              exact c2
            refine q false H1 ⟨fun e => (nomatch e), fun ⟨c, e, b⟩ => ?_⟩ s1
            rw [e, within_of (best_asc b).1] at hw
            cases hw
          · have hw : xs.all (within n) = true := by
              cases e : xs.all (within n) with
              | true => rfl
              | false =>
                refine absurd ?_ cc
                show (!(xs.map (within n)).all (fun b => b)) = true
                rw [Bool.not_eq_true', List.all_map]
                exact e
            obtain ⟨c, rfl, hc⟩ := within_ints hw
            rw [List.length_map] at hlen
            have hx1 := s1.tupT hx
            refine ⟨_, rfl, _, rfl, _, rfl, x, _, rfl, hx1, fun hwh => ?_, fun _ y hy => ?_⟩
            · have s2 := s1
              have hx2 := hx1
              have hy2 : SqT K H1 x ((c.drop 1).map V.int) := by
                have e2 := cut1_whole hwh
                rw [← List.map_drop] at e2
                rw [e2]
                exact hx1
              refine ⟨x, x, _, _, rfl, .inr ⟨hx2, hy2, fun D2 hD2 => lc_it (walk_zipT rfl) (PvS _ D2 fun i => some (.bl (decide (c.getD i 0 < (c.drop 1).getD i 0)))) (pvs_zero hD2) (fun i H' _ p => ⟨p.1.tupT hx2, p.1.tupT hy2⟩) ?_ ?_⟩⟩
              · intro i z H3 H4 hi p yy
                obtain ⟨T, vx, vy, rfl, hT, rfl, ex, ey⟩ := yy
                obtain ⟨rfl, h1'⟩ := map_getD ex
                obtain ⟨rfl, h2'⟩ := map_getD ey
                refine ⟨T, _, rfl, SqT.of upd_same, rfl, _, _, rfl, _, _, rfl, rfl, rfl, ?_⟩
                exact ⟨_, rfl, _, rfl, _, _, rfl, rfl, pvs_push hD2 p (same_upd hT) rfl (Nat.lt_trans (Nat.lt_of_lt_of_le h1' hlen) (by decide))⟩
              · intro H3 p
                have s3 := s2.same p.1
                have hx3 := s3.tupT hx
                refine ⟨D2, (List.range (min c.length (c.drop 1).length)).map (fun i => decide (c.getD i 0 < (c.drop 1).getD i 0)), rfl, SqL.of ?_, _, rfl, ?_⟩
                · rw [p.2, fm_some, List.map_map, List.length_map, List.length_map]
                  rfl
                · rw [List.all_map]
                  refine ite2 (fun c3 => ?_) (fun c3 => ?_)
                  · have ha : asc c = false := by
                      have c4 : (!asc c) = true := c3
                      rw [Bool.not_eq_true'] at c4
                      exact c4
                    refine q false H3 ⟨fun e => (nomatch e), fun ⟨c', e, b⟩ => ?_⟩ s3
                    rw [ints_inj e, (best_asc b).2] at ha
                    cases ha
                  · have ha : asc c = true := by
                      cases e : asc c with
                      | true => rfl
                      | false =>
                        refine absurd ?_ c3
                        show (!asc c) = true
                        rw [e]
                        rfl
                    have hL3 := hL.st s3
                    refine ⟨_, rfl, x, _, rfl, .inr hx3, _, rfl, a, n, ms, rfl, hL3, hD, s3.tab', fun hno => ?_, fun d' H4 hb4 s4 => ?_⟩
                    · have := hno d hB.mem
                      rw [hB.free] at this
                      cases this
                    · have s34 := s3.trans s4
                      refine ⟨rfl, _, rfl, ?_⟩
                      rw [List.length_map, dV]
                      have ed : decide (((c.length : Nat) : Int) = ((d'.length : Nat) : Int)) = decide (c.length = d'.length) := decide_eq_decide.mpr (by omega)
                      rw [ed]
                      have iff0 := best_iff hc ha hb4
                      refine ite2 (fun c5 => ?_) (fun c5 => ?_)
                      · have c6 := of_decide_eq_true c5
                        have hx4 := s34.tupT hx
                        obtain ⟨dx4, ws4, M4, as4, hs4, h04, h14, hM4, hR4⟩ := (hL.st s34).slt
                        refine ⟨_, rfl, a, C, dx4, p1, ws4, 1, _, rfl, hs4, L.cls, S1, h14, _, rfl, M4, x, as4, ms, c, rfl, hM4, hR4, hx4, by rw [hR4.length]; exact hD.len, hD.short, fun H5 s5 => ?_⟩
                        refine q _ H5 ⟨fun e => ⟨c, rfl, iff0.mp ⟨c6, e⟩⟩, fun ⟨c', e, b⟩ => ?_⟩ (s34.same s5)
                        rw [ints_inj e]
                        exact b.free
                      · refine q false H4 ⟨fun e => (nomatch e), fun ⟨c', e, b⟩ => ?_⟩ s34
                        have c6 : c.length = d'.length := by
                          rw [ints_inj e]
                          exact b.len hb4
                        exact absurd (decide_eq_true c6) c5
            · have s2 := s1.same (same_upd (o := .tup (cutV (c.map V.int) (some 1) none)) hy)
              have hx2 := s2.tupT hx
              have hy2 : SqT K (upd H1 y (.tup (cutV (c.map V.int) (some 1) none))) y ((c.drop 1).map V.int) := by
                refine SqT.of ?_
                rw [upd_same, cut1, List.map_drop]
              refine ⟨x, y, _, _, rfl, .inr ⟨hx2, hy2, fun D2 hD2 => lc_it (walk_zipT rfl) (PvS _ D2 fun i => some (.bl (decide (c.getD i 0 < (c.drop 1).getD i 0)))) (pvs_zero hD2) (fun i H' _ p => ⟨p.1.tupT hx2, p.1.tupT hy2⟩) ?_ ?_⟩⟩
              · intro i z H3 H4 hi p yy
                obtain ⟨T, vx, vy, rfl, hT, rfl, ex, ey⟩ := yy
                obtain ⟨rfl, h1'⟩ := map_getD ex
                obtain ⟨rfl, h2'⟩ := map_getD ey
                refine ⟨T, _, rfl, SqT.of upd_same, rfl, _, _, rfl, _, _, rfl, rfl, rfl, ?_⟩
                exact ⟨_, rfl, _, rfl, _, _, rfl, rfl, pvs_push hD2 p (same_upd hT) rfl (Nat.lt_trans (Nat.lt_of_lt_of_le h1' hlen) (by decide))⟩
              · intro H3 p
                have s3 := s2.same p.1
                have hx3 := s3.tupT hx
                refine ⟨D2, (List.range (min c.length (c.drop 1).length)).map (fun i => decide (c.getD i 0 < (c.drop 1).getD i 0)), rfl, SqL.of ?_, _, rfl, ?_⟩
                · rw [p.2, fm_some, List.map_map, List.length_map, List.length_map]
                  rfl
                · rw [List.all_map]
                  refine ite2 (fun c3 => ?_) (fun c3 => ?_)
                  · have ha : asc c = false := by
                      have c4 : (!asc c) = true := c3
                      rw [Bool.not_eq_true'] at c4
                      exact c4
                    refine q false H3 ⟨fun e => (nomatch e), fun ⟨c', e, b⟩ => ?_⟩ s3
                    rw [ints_inj e, (best_asc b).2] at ha
                    cases ha
                  · have ha : asc c = true := by
                      cases e : asc c with
                      | true => rfl
                      | false =>
                        refine absurd ?_ c3
                        show (!asc c) = true
                        rw [e]
                        rfl
                    have hL3 := hL.st s3
                    refine ⟨_, rfl, x, _, rfl, .inr hx3, _, rfl, a, n, ms, rfl, hL3, hD, s3.tab', fun hno => ?_, fun d' H4 hb4 s4 => ?_⟩
                    · have := hno d hB.mem
                      rw [hB.free] at this
                      cases this
                    · have s34 := s3.trans s4
                      refine ⟨rfl, _, rfl, ?_⟩
                      rw [List.length_map, dV]
                      have ed : decide (((c.length : Nat) : Int) = ((d'.length : Nat) : Int)) = decide (c.length = d'.length) := decide_eq_decide.mpr (by omega)
                      rw [ed]
                      have iff0 := best_iff hc ha hb4
                      refine ite2 (fun c5 => ?_) (fun c5 => ?_)
                      · have c6 := of_decide_eq_true c5
                        have hx4 := s34.tupT hx
                        obtain ⟨dx4, ws4, M4, as4, hs4, h04, h14, hM4, hR4⟩ := (hL.st s34).slt
                        refine ⟨_, rfl, a, C, dx4, p1, ws4, 1, _, rfl, hs4, L.cls, S1, h14, _, rfl, M4, x, as4, ms, c, rfl, hM4, hR4, hx4, by rw [hR4.length]; exact hD.len, hD.short, fun H5 s5 => ?_⟩
                        refine q _ H5 ⟨fun e => ⟨c, rfl, iff0.mp ⟨c6, e⟩⟩, fun ⟨c', e, b⟩ => ?_⟩ (s34.same s5)
                        rw [ints_inj e]
                        exact b.free
                      · refine q false H4 ⟨fun e => (nomatch e), fun ⟨c', e, b⟩ => ?_⟩ s34
                        have c6 : c.length = d'.length := by
                          rw [ints_inj e]
                          exact b.len hb4
                        exact absurd (decide_eq_true c6) c5
end
end K14

set_option maxHeartbeats 4000000
/-! sorted(d, key=sum), d a dict whose keys are tuples of ints; {one: True for one in ..} with such keys -/
namespace K14
open PySem PySem.Spec PyProof.Rows L2
/-- the dict's entries: rows, each True -/
def entR (m : List Int) : List L2.Key × V := (m.map Sum.inl, .bl true)
theorem entR_kV (m : List Int) : (m.map (Sum.inl : Int → L2.Key)).map kV = m.map V.int := by
  rw [List.map_map]
  rfl
theorem kt_rows {H : Hp} : ∀ {ms : List (List Int)} {xs : List (List L2.Key × Addr × Value)}, KT H (ms.map entR) xs →
    ∃ L : List (Addr × List Int), L.map (·.2) = ms ∧ (xs.map fun x => Value.ref x.2.1) = L.map (fun x => Value.ref x.1) ∧ ∀ x ∈ L, H x.1 = some (.tup (x.2.map V.int))
  | [], _, .nil => ⟨[], rfl, rfl, fun x hx => absurd hx (by simp)⟩
  | m :: ms, _, .cons (b := q) h t => by
    obtain ⟨L, e1, e2, e3⟩ := kt_rows t
    refine ⟨(q.2.1, m) :: L, by rw [List.map_cons, e1], by rw [List.map_cons, List.map_cons, e2], fun x hx => ?_⟩
    rcases List.mem_cons.mp hx with z | hx
    · rw [z]
      have h2 := h.2.1
      rw [show ((entR m).1.map kV) = m.map V.int from entR_kV m] at h2
      exact h2
    · exact e3 x hx
theorem each_refs {H : Hp} : ∀ {L : List (Addr × List Int)}, (∀ x ∈ L, H x.1 = some (.tup (x.2.map V.int))) → PySem.W.EachIs (fun (v : Value) (x : Addr × List Int) => v = .ref x.1 ∧ H x.1 = some (.tup (x.2.map V.int))) (L.map fun x => Value.ref x.1) L
  | [], _ => .nil
  | x :: L, h => .cons ⟨rfl, h x List.mem_cons_self⟩ (each_refs fun y hy => h y (List.mem_cons_of_mem _ hy))
theorem refs_each {H : Hp} : ∀ {vs : List Value} {L : List (Addr × List Int)}, PySem.W.EachIs (fun (v : Value) (x : Addr × List Int) => v = .ref x.1 ∧ H x.1 = some (.tup (x.2.map V.int))) vs L →
    Vals (L.map fun x => V.ref x.1) vs ∧ ∀ x ∈ L, H x.1 = some (.tup (x.2.map V.int))
  | _, _, .nil => ⟨.nil, fun x hx => absurd hx (by simp)⟩
  | _, _, .cons h t => by
    obtain ⟨h1, h2⟩ := refs_each t
    refine ⟨.cons h.1 h1, fun x hx => ?_⟩
    rcases List.mem_cons.mp hx with z | hx
    · rw [z]
      exact h.2
    · exact h2 x hx
/-- what a walk over such a dict has gathered: its keys, in order -/
theorem keys_read {P : Program} {w : World} {es : Array DictEntry} {ks : List (List L2.Key × Addr × Value)} {acc : Array Value} (he : es.toList = ks.map (entryOfKey (tupleKind (mixKind P w)))) (size : acc.size = es.size)
    (each : ∀ (j : Nat) (v : Value), acc[j]? = some v → ∃ en : DictEntry, es[j]? = some en ∧ v = en.key) : acc.toList = ks.map fun b => Value.ref b.2.1 := by
  have many : es.toList.length = ks.length := by rw [he, List.length_map]
  rw [Array.length_toList] at many
  refine List.ext_getElem (by rw [Array.length_toList, List.length_map, size, many]) fun j inA inK => ?_
  rw [Array.length_toList] at inA
  rw [List.length_map] at inK
  obtain ⟨en, stands, key⟩ := each j acc[j] (Array.getElem?_eq_getElem inA)
  have told : (ks.map (entryOfKey (tupleKind (mixKind P w))))[j]? = some en := by rw [← he, Array.getElem?_toList, stands]
  rw [List.getElem?_map, List.getElem?_eq_getElem inK] at told
  rw [Array.getElem_toList, List.getElem_map, key, ← Option.some.inj told] <;> rfl
theorem args_sorted_sum (a : Value) : argsOk "sorted" ⟨[a], [(Str.ofString "key", .builtin "sum")]⟩ := by unfold argsOk; kernel_rfl
theorem args_sort_sum (a : Value) : argsOk "list.sort" ⟨[a], [(Str.ofString "key", .builtin "sum")]⟩ := by unfold argsOk; kernel_rfl
def tSortSum (te : TE) : TE := fun σ H Q => te σ H fun v H1 => ∃ (a : Addr) (ms : List (List Int)), v = .ref a ∧ H1 a = some (.dT (ms.map entR)) ∧ ms.length ≤ 1000 ∧
  ∀ (L : List (Addr × List Int)) (p : Addr), (L.map (·.2)).Perm ms → (∀ x ∈ L, H1 x.1 = some (.tup (x.2.map V.int))) → H1 p = none → Q (.ref p) (upd H1 p (.lst (L.map fun x => V.ref x.1)))
section
variable {X : Cx}
theorem run_sortSum {pins : List (Addr × Obj)} {σ : L2.St} {H : Hp} {s : Shared} {a : Addr} {ms : List (List Int)} {Q : VK} {E : Value → Shared → Prop} (hc : X.calm = true) (hu : X.A.units + 64 < cLine) (I : Inv X pins σ H s) (hd : H a = some (.dT (ms.map entR))) (hl : ms.length ≤ 1000)
    (q : ∀ (L : List (Addr × List Int)) (p : Addr), (L.map (·.2)).Perm ms → (∀ x ∈ L, H x.1 = some (.tup (x.2.map V.int))) → H p = none → Q (.ref p) (upd H p (.lst (L.map fun x => V.ref x.1)))) :
    wpAny (model X.prog X.w) X.A (call (.builtin "sorted") [.ref a] [(Str.ofString "key", .builtin "sum")]) (EP X pins σ Q) E s := by
  obtain ⟨z, hs, ks, pr, o, es, ep, ho, hx, hdt, he, hn⟩ := (show ObjOk X.prog X.w H s.heap a (.dT (ms.map entR)) from I.hok a _ hd)
  obtain ⟨L, eL, eR, hR⟩ := kt_rows pr
  have lL : L.length = ms.length := by rw [← eL, List.length_map]
  have small : ms.length ≤ sizeLine := Nat.le_trans hl (by decide)
  have few : es.size ≤ sizeLine := by
    have many := congrArg List.length he
    have same := Paired.length pr
    rw [Array.length_toList, List.length_map] at many
    rw [List.length_map] at same
    omega
  refine call_function_entry_kw kind_sorted plain_sorted entry_sorted (args_sorted_sum _) ?_
  unfold Builtin.«sorted»
  refine wpAny_bind (m := checkCount "sorted" 1 1 _) (wpAny_pure (wpAny_bind (PySem.W.kdu_collect (A := X.A.in1) (kdl_raw hs hx hdt) (I.ok.hd hc) ho few fun h' tk acc hk it => ?_)))
  have ea : acc.toList = L.map fun x => Value.ref x.1 := by
    rw [← eR]
    exact keys_read he it.1 it.2
  have I1 := I.kept (h' := h') (t' := tk) hk
  have hoL : (h'.push (seqObj "list" acc.toList.toArray 0)).get? h'.objs.size = _ := Heap.get?_push_size (o := seqObj "list" acc.toList.toArray 0) _ rfl
  refine wpAny_bind (wpAny_newList (wpAny_bind (show wpAny _ _ _ _ _ { s with heap := h'.push (seqObj "list" acc.toList.toArray 0), toks := tk } from wpAny_holding ?_)) (by rw [ea, List.length_map, lL]; exact small))
  refine PySem.W.list_sort_key_data (s := { s with heap := h'.push (seqObj "list" acc.toList.toArray 0), toks := tk }) (vs := acc.toList) (bs := L) (b := false) (R := fun (v : Value) (x : Addr × List Int) => v = .ref x.1 ∧ H x.1 = some (.tup (x.2.map V.int)))
    (fun x => PyData.int x.2.sum) hoL (by rw [ea]; exact each_refs hR) (PySem.W.AllAlike.of fun b b' => by simp [PySem.W.alike]) ?_ (by rw [lL]; exact Nat.le_trans hl (by decide)) (fun x _ => ?_) (args_sort_sum _) (PyProof.Rows.ksk_t4 "sum" _) ?_ ?_
  · refine .inr fun d hd => ?_
    obtain ⟨x, _, rfl⟩ := List.mem_map.mp hd
    exact ⟨fun z => (nomatch z), fun xs z => (nomatch z)⟩
  · show X.A.units + 1 + 1 + 0 < cLine
    omega
  · rintro v x ⟨rfl, hx1⟩ hxL h tk' kp
    obtain ⟨its, rv, pl, hz2⟩ := I1.tuple (SqT.of hx1)
    have lt : x.1 < h'.objs.size := pl.lt
    have pl2 : h.IsTuple x.1 its.toArray := by
      refine Heap.IsTuple.at (show h'.IsTuple x.1 its.toArray from pl) fun o e => ?_
      exact kp x.1 o (Nat.ne_of_lt lt) (Heap.get?_push_of_some _ e)
    exact sum_rawT (s := { s with heap := h, toks := tk' }) (I.ok.hd hc) pl2 rv.ints fun h2 tk2 t2 hk2 => ⟨h2, tk2, rfl, hk2, .int _ _⟩
  · intro out c h2 tk2 kp hD hlen hE
    have hperm : (L.mergeSort (PySem.W.dataLe false fun x => PyData.int x.2.sum)).Perm L := List.mergeSort_perm _ _
    generalize hL2 : L.mergeSort (PySem.W.dataLe false fun x => PyData.int x.2.sum) = L2 at hE hperm
    obtain ⟨rv, hR2⟩ := refs_each hE
    refine wpAny_pure ⟨_, rfl, .ref h'.objs.size, upd H h'.objs.size (.lst (L2.map fun x => V.ref x.1)), I1.laid (t' := tk2) (fun b u e => kp b u (Nat.ne_of_lt (Heap.lt_size e)) (Heap.get?_push_of_some _ e)) (Nat.le_refl _) ?_, rfl, q L2 _ ?_ hR2 (I1.hok.fresh (Nat.le_refl _))⟩
    · refine ⟨?_, out, c, rv, hD⟩
      rw [List.length_map, hperm.length_eq, lL]
      exact Nat.le_trans hl (by decide)
    · rw [← eL]
      exact hperm.map _
theorem pe_sortSum {e : Expr} {te : TE} {p p2 kpos pos : Pos} (hc : X.calm = true) (hu : X.A.units + 64 < cLine) (hg : Gl X "sorted") (hm : X.mg "sorted" = none) (hg2 : Gl X "sum") (hm2 : X.mg "sum" = none) (he : PE X e te)
    (he0 : backTo pos (starEach [e] X.env) = (false, eval e X.env) :: backTo pos (starEach [] X.env) := by rfl) :
    PE X (.Call (.Name "sorted" p) [e] [⟨some "key", .Name "sum" p2, kpos⟩] pos) (tSortSum te) := by
  constructor
  intro pins s σ H Q I h
  refine wpAny_Call_Name_kw (ld_blt (u := .builtin "sorted") I hg hm (by first | rfl | decide +kernel) ?_ (by decide) (by decide))
  refine PyProof.Rows.callWith_kw ?_ he0 (by rw [he0]; rfl) (by rfl) (by rfl)
  rw [he0]
  refine Calls.spliced_cons (thn (he.run pins s σ H _ I h) fun u s1 ⟨v, H1, I1, r1, a, ms, ev, hd, hl, q⟩ => ?_)
  cases ev
  cases r1
  refine Calls.spliced_nil (show wpAny _ _ (evalAll [do let v ← eval (.Name "sum" p2) X.env; standAt pos; pure v]) _ _ _ from wpAny_evalAll_cons (wpAny_bind ?_))
  have last := run_sortSum hc hu I1 hd hl q (E := X.xe)
  exact ld_blt (u := .builtin "sum") I1 hg2 hm2 (by first | rfl | decide +kernel) (wpAny_bind (wpAny_standAt (wpAny_pure (wpAny_evalAll_nil last)))) (by decide) (by decide)
end
end K14

set_option maxHeartbeats 4000000
/-! {x: True for x in t}, t a tuple of unlike rows: over KE.GoesNew's dict comprehension, at the library's level (no block of the layer) -/
namespace K14
open PySem PySem.Spec PyProof.Rows L2
theorem inl_inj : ∀ {a b : List Int}, a.map (Sum.inl : Int → L2.Key) = b.map Sum.inl → a = b
  | [], [], _ => rfl
  | [], _ :: _, h => by cases h
  | _ :: _, [], h => by cases h
  | x :: a, y :: b, h => by
    injection h with h1 h2
    rw [Sum.inl.inj h1, inl_inj h2]
theorem valV_rows (m : List Int) : ∀ ms : List (List Int), m ∉ ms → valV (ms.map entR) (m.map (Sum.inl : Int → L2.Key)) = none
  | [], _ => rfl
  | n :: ms, h => by
    rw [List.map_cons, valV_neg, valV_rows m ms (fun z => h (List.mem_cons_of_mem _ z))]
    intro z
    exact h (by rw [← inl_inj z]; exact List.mem_cons_self)
theorem put_row (m : List Int) (ms : List (List Int)) (h : m ∉ ms) : putK (ms.map entR) (m.map (Sum.inl : Int → L2.Key)) (.bl true) = (ms ++ [m]).map entR := by
  rw [putK_new _ (valV_rows m ms h), List.map_append]
  rfl
theorem nodup_take {α : Type} {l : List α} {i : Nat} {x : α} (hn : l.Nodup) (h : l[i]? = some x) : x ∉ l.take i := by
  intro hx
  obtain ⟨j, hj, e⟩ := List.getElem_of_mem hx
  rw [List.length_take] at hj
  obtain ⟨hi, e2⟩ := List.getElem?_eq_some_iff.mp h
  rw [List.getElem_take] at e
  have := (List.getElem_inj hn).mp (e.trans e2.symm)
  omega
/-- the iterable's value: a tuple of the rows L, no two alike; then a new dict with the rows as keys, each True -/
def tOnce (K : PySem.W.Frag) (te : TE) : TE := fun σ H Q => te σ H fun v H1 => ∃ (a : Addr) (L : List (Addr × List Int)), v = .ref a ∧ SqT K H1 a (L.map fun x => V.ref x.1) ∧ (∀ x ∈ L, H1 x.1 = some (.tup (x.2.map V.int))) ∧ (L.map (·.2)).Nodup ∧ L.length ≤ 1000 ∧
  ∀ D, H1 D = none → Q (.ref D) (upd H1 D (.dT ((L.map (·.2)).map entR)))
/-- the dict at D behind i turns -/
def OnceAt (P : Program) (w : World) (H1 : Hp) (D : Addr) (L : List (Addr × List Int)) (i : Nat) (h : Heap) : Prop :=
  ∃ xs, KT H1 (((L.take i).map (·.2)).map entR) xs ∧ h.DictOfH (tupleKind (mixKind P w)) D xs
section
variable {P : Program} {w : World} {H1 : Hp} {h h' : Heap} {D : Addr} {L : List (Addr × List Int)} {i : Nat}
/-- a row stays a key while what stood stands -/
theorem row_key {h0 : Heap} (ok : HOk P w H1 h0) (keep : ∀ b o, h0.get? b = some o → h.get? b = some o) {x : Addr × List Int} (hx : H1 x.1 = some (.tup (x.2.map V.int))) : (tupleKind (mixKind P w)).is h (x.2.map Sum.inl) x.1 := by
  obtain ⟨o, items, n, g, rest⟩ := key_of (P := P) (w := w) ok (ks := x.2.map Sum.inl) (a := x.1) (by rw [entR_kV]; exact hx)
  exact ⟨o, items, n, keep _ _ g, rest⟩
theorem kt_keys {h0 : Heap} (ok : HOk P w H1 h0) (keep : ∀ b o, h0.get? b = some o → h.get? b = some o) : ∀ {kvs : List (List L2.Key × V)} {xs : List (List L2.Key × Addr × Value)}, KT H1 kvs xs → ∀ y ∈ xs, (tupleKind (mixKind P w)).is h y.1 y.2.1
  | _, _, .nil, _, no => nomatch no
  | _, _, .cons (a := p) (b := q) z t, y, hy => by
    rcases List.mem_cons.mp hy with e | later
    · subst e
      obtain ⟨o, items, n, g, rest⟩ := key_of (P := P) (w := w) ok (ks := p.1) (a := y.2.1) z.2.1
      rw [← z.1]
      exact ⟨o, items, n, keep _ _ g, rest⟩
    · exact kt_keys ok keep t y later
theorem OnceAt.next {x : Addr × List Int} (hN : (L.map (·.2)).Nodup) (hx : L[i]? = some x) {xs : List (List L2.Key × Addr × Value)} (r : KT H1 (((L.take i).map (·.2)).map entR) xs) (hr : H1 x.1 = some (.tup (x.2.map V.int))) :
    KT H1 (((L.take (i + 1)).map (·.2)).map entR) (storedH xs (x.2.map Sum.inl) x.1 (.bool true)) := by
  have at_ : (L.map (·.2))[i]? = some x.2 := by rw [List.getElem?_map, hx] <;> rfl
  have new : x.2 ∉ (L.take i).map (·.2) := by
    rw [List.map_take]
    exact nodup_take hN at_
  have z := r.put (x.2.map Sum.inl) (b := x.1) (y := .bl true) (u := .bool true) (by rw [entR_kV]; exact hr) rfl
  rw [put_row _ _ new] at z
  have e : (L.take (i + 1)).map (·.2) = (L.take i).map (·.2) ++ [x.2] := by rw [take_snoc hx, List.map_append] <;> rfl
  rw [e]
  exact z
end
theorem pe_once {X : Cx} {iter : Expr} {te : TE} {x : Str} {scope : Scope} {p p2 pc pos : Pos} {k : Nat} (hc : X.calm = true) (hu : X.A.units < cLine) (hk : scope.kind = .function) (hn : ∀ y ∈ scope.names, y.2 = .local ∧ scope.names.lookup y.1 = some .local) (lx : scope.names.lookup x = some .local) (hd : (x == ("__debug__" : Str)) = false) (he : PE X iter te)
    (hs : ∀ v, foldedSetIterable iter X.env v = pure v := by intro _; rfl) : PE X (.DictComp (.Name x p) (.Constant (.bool true) k pc) [⟨.Name x p2, iter, [], 0⟩] scope pos) (tOnce X.K te) where
  run pins s σ H Q I h := by
    refine DictComp_goesN (cl := []) (closureFor_none fun y hy => by rw [(hn y hy).1]; nofun) (fun y hy => by rw [(hn y hy).1]; nofun) hk (fun y hy _ => (hn y hy).2) (thn (he.run pins s σ H _ I h) fun v s1 z => ?_) hs
    obtain ⟨y, H1, I1, ry, a, L, rfl, tup, rows, dist, len, q⟩ := z
    obtain rfl : v = .ref a := ry
    obtain ⟨its, rv, ht, _⟩ := I1.tuple tup
    have lt : a < s1.heap.objs.size := ht.lt
    have size1 : (s1.heap.push ⟨.type "tuple_iterator", none, .fields #[.ref a, .int 0 0], #[]⟩).objs.size = s1.heap.objs.size + 1 := Heap.size_push ..
    refine (begins_tuple a its.toArray).iter _ _ _ _ _ _ ht ⟨s1.heap.objs.size, [s1.heap.objs.size, a], [s1.heap.objs.size], its.toArray.size, _, _, rfl, (Goes.tuple (I1.ok.hd hc) _ a (Nat.ne_of_lt lt) its.toArray).toN, ⟨⟨_, Heap.get?_push_size _ rfl, rfl, rfl⟩, ht.push _⟩, fun D C s3 B hD => ?_⟩
    obtain ⟨⟨h3, tk3, rfl⟩, old, newD, newC, ne, names⟩ := B
    have aD : s1.heap.objs.size + 1 ≤ D := size1 ▸ newD
    have aC : s1.heap.objs.size + 1 ≤ C := size1 ▸ newC
    have low : ∀ b, b < s1.heap.objs.size → b ≠ D ∧ b ≠ C := fun b hb => ⟨Nat.ne_of_lt (Nat.lt_of_lt_of_le hb (Nat.le_of_succ_le aD)), Nat.ne_of_lt (Nat.lt_of_lt_of_le hb (Nat.le_of_succ_le aC))⟩
    have offI : ∀ b, s1.heap.objs.size + 1 ≤ b → b ∉ [s1.heap.objs.size] := fun b hb z => Nat.lt_irrefl _ (Nat.lt_of_lt_of_le (Nat.lt_succ_self _) ((List.mem_singleton.mp z) ▸ hb))
    have offL : ∀ b, b < s1.heap.objs.size → b ∉ [s1.heap.objs.size] := fun b hb z => Nat.ne_of_lt hb (List.mem_singleton.mp z)
    have kinds : (compEnvC scope [] C X.env).kindOf x = some .local := lookup_relabel_local lx
    have plain : ((compEnvC scope [] C X.env).scope.kind == .class || ((compEnvC scope [] C X.env).scope.kind == .module && (compEnvC scope [] C X.env).locals != (compEnvC scope [] C X.env).globals)) = false := by
      show (scope.kind == .class || (scope.kind == .module && _)) = false
      rw [hk] <;> rfl
    refine ⟨fun i s' => ∃ g tk m, s' = { s1 with heap := g, toks := tk } ∧ g.Ns C m ∧ (∀ b o, s1.heap.get? b = some o → g.get? b = some o) ∧ OnceAt X.prog X.w H1 D L i g, ?_, ?_, ?_, ?_⟩
    · have e0 : (s1.heap.push ⟨.type "dict", none, .dict #[], #[]⟩).DictOfH (tupleKind (mixKind X.prog X.w)) s1.heap.objs.size [] := Heap.DictOfH.new _
      exact ⟨h3, tk3, _, rfl, names, fun b o z => old b o (Heap.get?_push_of_some _ z), [], .nil, ⟨_, #[], 0, hD, ⟨rfl, rfl, rfl⟩, rfl, rfl, nofun, .nil⟩⟩
    · rintro i _ g' tk' ⟨g, tk, m, rfl, hns, keep, xs, r, dict⟩ step _
      have keep' : ∀ b o, s1.heap.get? b = some o → g'.get? b = some o := fun b o z => step b o (offL b (Heap.lt_size z)) (keep b o z)
      exact ⟨g', tk', m, rfl, hns.at' fun o z => step C o (offI C aC) z, keep', xs, r, dict.at' (fun o z => step D o (offI D aD) z) (kt_keys I1.hok keep' r)⟩
    · rintro i v s0 _ hi _ _ hv st ⟨g, tk, m, rfl, hns, keep, xs, r, dict⟩
      have hv' : its[i]? = some v := by rw [← hv, List.getElem?_toArray]
      obtain ⟨row, hrow, ev⟩ : ∃ row, L[i]? = some row ∧ v = .ref row.1 := by
        have li : i < (L.map fun x => V.ref x.1).length := by rw [rv.length]; exact (List.getElem?_eq_some_iff.mp hv').1
        have li' : i < L.length := by rwa [List.length_map] at li
        obtain ⟨u, hu', ru⟩ := rv.get (show (L.map fun x => V.ref x.1)[i]? = some (.ref (L[i]).1) by rw [List.getElem?_map, List.getElem?_eq_getElem li'] <;> rfl)
        exact ⟨L[i], List.getElem?_eq_getElem li', (Option.some.inj (hv'.symm.trans hu')).trans ru⟩
      have hr := rows row (List.mem_of_getElem? hrow)
      subst ev
      refine wpAny_assign_Name (wpAny_storeName_local kinds hns (fun g5 n5 b5 => wpAny_tests_nil ?_) plain)
      have up5 : ∀ b o, s1.heap.get? b = some o → g5.get? b = some o := fun b o z => b5.extBut b o (low b (Heap.lt_size z)).2 (keep b o z)
      have dict5 := dict.at' (fun o z => b5.extBut D o ne z) (kt_keys (h := g5) I1.hok up5 r)
      show wpAny _ _ (eval (.Name x p) _) _ _ _
      rw [eval_Name _ _ _ hd]
      refine wpAny_bind (wpAny_standAt (wpAny_loadName_local hk kinds n5 (v := .ref row.1) (by simp) (Constant_bool ?_)))
      have few : xs.length ≤ sizeLine := by
        rw [← Paired.length r, List.length_map, List.length_map, List.length_take]
        exact Nat.le_trans (Nat.le_trans (Nat.min_le_right _ _) len) (by decide)
      refine wpAny_dictSet_heap (hsz := few) hu (row_key I1.hok up5 hr) dict5 fun g6 dict6 b6 => ?_
      have up6 : ∀ b o, b ≠ D → g5.get? b = some o → g6.get? b = some o := fun b o hb z => (b6.2 b hb).trans z
      refine ⟨⟨g6, _, _, rfl, n5.at' fun o z => up6 C o (Ne.symm ne) z, fun b o z => up6 b o (low b (Heap.lt_size z)).1 (up5 b o z), _, OnceAt.next dist hrow r hr, dict6⟩, ?_⟩
      have kept : ∀ b o, b < s1.heap.objs.size + 1 → g.get? b = some o → g6.get? b = some o := fun b o hb z =>
        up6 b o (Nat.ne_of_lt (Nat.lt_of_lt_of_le hb aD)) (b5.extBut b o (Nat.ne_of_lt (Nat.lt_of_lt_of_le hb aC)) z)
      exact ⟨st.1.at fun o z => kept _ o (Nat.lt_succ_self _) z, st.2.at fun o z => kept _ o (Nat.lt_succ_of_lt lt) z⟩
    · rintro _ ⟨g, tk, m, rfl, hns, keep, xs, r, dict⟩
      refine ⟨m, hns, fun g' b' => ⟨.ref D, upd H1 D (.dT ((L.map (·.2)).map entR)), ?_, rfl, q D (I1.hok.fresh (Nat.le_of_succ_le aD))⟩⟩
      have sD : s1.heap.objs.size ≤ D := Nat.le_of_succ_le aD
      have up : ∀ b o, s1.heap.get? b = some o → g'.get? b = some o := fun b o z => b'.extBut b o (low b (Heap.lt_size z)).2 (keep b o z)
      have all : L.take its.toArray.size = L := by
        rw [List.take_of_length_le]
        rw [List.size_toArray, ← rv.length, List.length_map]
        exact Nat.le_refl _
      rw [all] at r
      obtain ⟨o, es, ep, d1, d2, d3, d4, _, d5⟩ := dict
      refine I1.laid (t' := tk) up sD ⟨?_, ?_, xs, r.keeps fun b ys z => ?_, o, es, ep, b'.extBut D o ne d1, d2, d3, d4, d5⟩
      · rw [List.length_map, List.length_map]
        exact Nat.le_trans len (by decide)
      · exact beq_eq_false_iff_ne.mpr (Nat.ne_of_gt (Nat.lt_of_lt_of_le I1.big sD))
      · rw [upd_ne (ne_of_none z (I1.hok.fresh sD))]
        exact z
end K14

set_option maxHeartbeats 4000000
/-! divides, _law_divides -/
namespace K14
open PySem PySem.Spec PyProof.Rows L2
abbrev sDiv : Stmt := top 17
abbrev sLDiv : Stmt := top 61
def spDiv (K : PySem.W.Frag) : Sp := fun vs H Q _ => ∃ (a b : Addr) (xs ys : List Int), vs = [.ref a, .ref b] ∧ SqT K H a (xs.map V.int) ∧ SqT K H b (ys.map V.int) ∧ xs.length ≤ 1000 ∧ ∀ H', Same H H' → Q (.bl (dv xs ys)) H'
section
variable {P : Program} {w : World} {K : PySem.W.Frag} {mg : Str → Option Value} {base : Heap}
theorem scDiv : FnScope ["one", "other", "least", "most"] ["one", "other"] (defScope sDiv) := ⟨rfl, rfl, rfl, by decide +kernel, rfl, by decide +kernel, by decide +kernel⟩
theorem ok_div (S : Src K mg "divides" sDiv ["one", "other"]) (B : Bl mg) : Cal P w K mg base CX0 1 "divides" ["one", "other"] (spDiv K) := by
  refine cal_of S scDiv (fun vs H Q E h => ?_) (fun f cdv A outer s H vs Q E hr h => ?_)
  · obtain ⟨a, b, xs, ys, rfl, _⟩ := h
    rfl
  · obtain ⟨a, b, xs, ys, rfl, hx, hy, hl, q⟩ := h
    refine ⟨_, pss_one (ps_ret (pe_callB (cr_all rfl) (by rfl) B.all (by decide +kernel) (pa_cons (pe_lc (own := [("least", 2), ("most", 3)]) (g := gTup K 2 (gCons (gName 2) (gCons (gName 3) gNil))) rfl scDiv.nd (RZ.pi_zipA (by rfl) B.zip (pa_cons (pv 0) (pa_cons (pv 1) pa_nil)))
      (blkOk_by (N := ["one", "other", "least", "most"]) (sc := defScope sDiv) (by decide +kernel))
      (fun _ _ _ _ _ => pg2 (i := 2) (j := 3) rfl scDiv.nd rfl rfl rfl rfl)
      (fun _ _ _ _ _ => pts_nil) (fun _ _ _ _ _ => pe_cmpR op_le (pv 2) (pv 3) (nomark _))) pa_nil))), ?_⟩
    refine ⟨_, rfl, _, rfl, a, b, _, _, rfl, .inr ⟨hx, hy, fun D hD => lc_it (walk_zipT rfl) (PvS H D fun i => some (.bl (decide (xs.getD i 0 ≤ ys.getD i 0)))) (pvs_zero hD) (fun i H' _ p => ⟨p.1.tupT hx, p.1.tupT hy⟩) ?_ ?_⟩⟩
    · intro i x H1 H2 hi p y
      obtain ⟨T, vx, vy, rfl, hT, rfl, ex, ey⟩ := y
      obtain ⟨rfl, h1⟩ := map_getD ex
      obtain ⟨rfl, h2⟩ := map_getD ey
      refine ⟨T, _, rfl, SqT.of upd_same, rfl, _, _, rfl, _, _, rfl, rfl, rfl, ?_⟩
      exact ⟨_, rfl, _, rfl, _, _, rfl, rfl, pvs_push hD p (same_upd hT) rfl (Nat.lt_trans (Nat.lt_of_lt_of_le h1 hl) (by decide))⟩
    · intro H' p
      refine ⟨D, (List.range (min xs.length ys.length)).map (fun i => decide (xs.getD i 0 ≤ ys.getD i 0)), rfl, SqL.of ?_, ?_⟩
      · rw [p.2, fm_some, List.map_map, List.length_map, List.length_map]
        rfl
      · rw [List.all_map]
        exact q H' p.1
/-! _law_divides: [1 for l, r in zip(one, other) if l > r] == [] -/
theorem scLDiv : FnScope ["_law_one", "_law_other", "_law_left", "_law_right_here"] ["_law_one", "_law_other"] (defScope sLDiv) := ⟨rfl, rfl, rfl, by decide +kernel, rfl, by decide +kernel, by decide +kernel⟩
theorem ldv_eq (xs ys : List Int) : decide (((List.range (min xs.length ys.length)).filterMap fun i => if ys.getD i 0 < xs.getD i 0 then some (1 : Int) else none) = []) = dv xs ys := by
  unfold dv
  rw [Bool.eq_iff_iff, decide_eq_true_iff, List.all_eq_true, List.filterMap_eq_nil_iff]
  constructor
  · intro h i hi
    have h2 := h i hi
    by_cases c : ys.getD i 0 < xs.getD i 0
    · rw [if_pos c] at h2
      cases h2
    · exact decide_eq_true (by omega)
  · intro h i hi
    have h2 := of_decide_eq_true (h i hi)
    rw [if_neg (by omega)]
theorem ok_ldiv (S : Src K mg "_law_divides" sLDiv ["_law_one", "_law_other"]) (B : Bl mg) : Cal P w K mg base CX0 1 "_law_divides" ["_law_one", "_law_other"] (spDiv K) := by
  refine cal_of S scLDiv (fun vs H Q E h => ?_) (fun f cdv A outer s H vs Q E hr h => ?_)
  · obtain ⟨a, b, xs, ys, rfl, _⟩ := h
    rfl
  · obtain ⟨a, b, xs, ys, rfl, hx, hy, hl, q⟩ := h
    refine ⟨_, pss_one (ps_ret (pe_cmpR (op_eqD hr.units) (pe_lc (own := [("_law_left", 2), ("_law_right_here", 3)]) (g := gTup K 2 (gCons (gName 2) (gCons (gName 3) gNil))) rfl scLDiv.nd (RZ.pi_zipA (by rfl) B.zip (pa_cons (pv 0) (pa_cons (pv 1) pa_nil)))
      (blkOk_by (N := ["_law_one", "_law_other", "_law_left", "_law_right_here"]) (sc := defScope sLDiv) (by decide +kernel))
      (fun _ _ _ _ _ => pg2 (i := 2) (j := 3) rfl scLDiv.nd rfl rfl rfl rfl)
      (fun _ _ _ _ _ => pts_one (pt_cmpR op_gt (pv 2) (pv 3) (nomark _))) (fun _ _ _ _ _ => pe_int)) (pe_lst pa_nil) (nomark _))), ?_⟩
    refine ⟨_, rfl, _, rfl, a, b, _, _, rfl, .inr ⟨hx, hy, fun D hD => lc_it (walk_zipT rfl) (PvS H D fun i => if ys.getD i 0 < xs.getD i 0 then some (.int 1) else none) (pvs_zero hD) (fun i H' _ p => ⟨p.1.tupT hx, p.1.tupT hy⟩) ?_ ?_⟩⟩
    · intro i x H1 H2 hi p y
      obtain ⟨T, vx, vy, rfl, hT, rfl, ex, ey⟩ := y
      obtain ⟨rfl, h1⟩ := map_getD ex
      obtain ⟨rfl, h2⟩ := map_getD ey
      refine ⟨T, _, rfl, SqT.of upd_same, rfl, _, _, rfl, _, _, rfl, rfl, rfl, ?_⟩
      refine ⟨_, rfl, _, rfl, _, _, rfl, rfl, _, rfl, ?_⟩
      refine ite2 (fun c => ?_) (fun c => ?_)
      · have c' := of_decide_eq_true c
        exact pvs_push hD p (same_upd hT) (if_pos c') (Nat.lt_trans (Nat.lt_of_lt_of_le h1 hl) (by decide))
      · have c' : ¬ ys.getD i 0 < xs.getD i 0 := fun z => c (decide_eq_true z)
        exact pvs_skip p (same_upd hT) (if_neg c')
    · intro H' p
      refine ⟨Nat.zero_le _, fun e he => ?_⟩
      have s2 : Same H' (upd H' e (.lst [])) := same_upd he
      have hD2 := s2 _ _ p.2
      have e1 : ((List.range (min (xs.map V.int).length (ys.map V.int).length)).filterMap fun i => if ys.getD i 0 < xs.getD i 0 then some (V.int 1) else none) =
          ((List.range (min xs.length ys.length)).filterMap fun i => if ys.getD i 0 < xs.getD i 0 then some (1 : Int) else none).map V.int := by
        rw [List.length_map, List.length_map, List.map_filterMap]
        congr 1
        funext i
        split <;> rfl
      rw [e1] at hD2
      refine ⟨_, _, dp_lst (SqL.of hD2), dp_lst (ns := []) (SqL.of upd_same), shaped_ints _, shaped_ints _, ?_⟩
      rw [eqv_lst, ldv_eq]
      exact q _ (p.1.trans s2)
end
end K14

set_option maxHeartbeats 4000000
/-! are_long, few_least_of -/
namespace K14
open PySem PySem.Spec PyProof.Rows L2
abbrev sLong : Stmt := top 28
abbrev sFew : Stmt := top 29
theorem pt_none {X : Cx} {e : Expr} : PT X e (fun _ _ _ => False) := ⟨fun _ _ _ _ _ _ h => h.elim⟩
/-- rows by their addresses -/
def RowsAt (H : Hp) (L : List (Addr × List Int)) : Prop := ∀ x ∈ L, H x.1 = some (.tup (x.2.map V.int))
abbrev refsOf (L : List (Addr × List Int)) : List V := L.map fun x => V.ref x.1
abbrev rowsOf (L : List (Addr × List Int)) : List (List Int) := L.map (·.2)
theorem RowsAt.same {H H' : Hp} {L : List (Addr × List Int)} (s : Same H H') (h : RowsAt H L) : RowsAt H' L := fun x hx => s _ _ (h x hx)
theorem RowsAt.rows {K : PySem.W.Frag} {H : Hp} : ∀ {L : List (Addr × List Int)}, RowsAt H L → Rows K H (L.map (·.1)) (rowsOf L)
  | [], _ => .nil
  | x :: L, h => .cons (SqT.of (h x List.mem_cons_self)) (RowsAt.rows fun y hy => h y (List.mem_cons_of_mem _ hy))
theorem refs_map (L : List (Addr × List Int)) : (L.map (·.1)).map V.ref = refsOf L := by
  rw [List.map_map]
  rfl
theorem refs_get {L : List (Addr × List Int)} {i : Nat} {v : V} (h : (refsOf L)[i]? = some v) : ∃ x, L[i]? = some x ∧ v = .ref x.1 := by
  rw [List.getElem?_map] at h
  cases e : L[i]? with
  | none =>
    rw [e] at h
    cases h
  | some x =>
    rw [e] at h
    exact ⟨x, rfl, (Option.some.inj h).symm⟩
def spLong (K : PySem.W.Frag) : Sp := fun vs H Q _ => ∃ (a : Addr) (L : List (Addr × List Int)), vs = [.ref a] ∧ SqL K H a (refsOf L) ∧ RowsAt H L ∧ L.length ≤ 1000 ∧ (∀ x ∈ L, 0 < x.2.length ∧ ∀ y ∈ x.2, y ≤ 60) ∧ ∀ H', Same H H' → Q (.bl false) H'
abbrev teLong (K : PySem.W.Frag) : TE := tOp (rI0 fun i j => .bl (decide (j < i))) (tCB (rMaxT K) (tCons (tVar 1) tNil)) (tC (.int 60))
section
variable {P : Program} {w : World} {K : PySem.W.Frag} {mg : Str → Option Value} {base : Heap}
theorem scLong : FnScope ["products", "product"] ["products"] (defScope sLong) := ⟨rfl, rfl, rfl, by decide +kernel, rfl, by decide +kernel, by decide +kernel⟩
theorem ok_long (S : Src K mg "are_long" sLong ["products"]) (B : Bl mg) (m : IsN mg "MAX_EXPONENT" 60) : Cal P w K mg base CX0 1 "are_long" ["products"] (spLong K) := by
  refine cal_of S scLong (fun vs H Q E h => ?_) (fun f cdv A outer s H vs Q E hr h => ?_)
  · obtain ⟨a, L, rfl, _⟩ := h
    rfl
  · obtain ⟨a, L, rfl, ha, hR, hl, hs, q⟩ := h
    obtain ⟨t, m⟩ := m
    refine ⟨_, pss_one (ps_ret (pe_callB (cr_any rfl) (by rfl) B.any (by decide +kernel) (pa_cons (pe_lc (own := [("product", 1)]) (g := gName 1) (te := teLong K) rfl scLong.nd (pi_list (pv 0))
      (blkOk_by (N := ["products", "product"]) (sc := defScope sLong) (by decide +kernel))
      (fun _ _ _ _ _ => pg_name (i := 1) scLong.nd rfl (Or.inl rfl)) (fun _ _ _ _ _ => pts_nil)
      (fun _ _ _ _ _ => by exact pe_cmpR op_gt (pe_callB (cr_maxT rfl) (by rfl) B.max (by decide +kernel) (pa_cons (pv 1) pa_nil)) (pe_glob (v := .int 60) (by rfl) m ⟨_, rfl⟩) (nomark _))) pa_nil))), ?_⟩
    refine ⟨_, rfl, a, rfl, ⟨_, ha⟩, fun D hD => lc_it (walk_list (xs := refsOf L)) (PvS H D fun i => some (.bl false)) (pvs_zero hD) (fun i H' _ p => p.1.seq ha) ?_ ?_⟩
    · rintro i x H1 H2 hi p ⟨rfl, hx⟩
      obtain ⟨y, ey, rfl⟩ := refs_get hx
      have hy := List.mem_of_getElem? ey
      obtain ⟨h1, h2⟩ := hs y hy
      have hi2 : i < sizeLine := by
        rw [List.length_map] at hi
        exact Nat.lt_of_lt_of_le (Nat.lt_of_lt_of_le hi hl) (by decide)
      refine ⟨rfl, _, rfl, y.1, y.2, rfl, SqT.of (p.1 _ _ (hR y hy)), h1, fun M h3 h4 => ⟨M, 60, rfl, rfl, ?_⟩⟩
      have e : decide ((60 : Int) < M) = false := decide_eq_false (by have := h2 M h3; omega)
      exact pvs_push hD p (Same.refl _) (by show some (V.bl false) = some (V.bl (decide (60 < M))); rw [e]) hi2
    · intro H' p
      refine ⟨D, (List.range L.length).map (fun _ => false), rfl, SqL.of ?_, ?_⟩
      · rw [p.2, fm_some, List.map_map, List.length_map]
        rfl
      · have e : ((List.range L.length).map (fun _ => false)).any (fun b => b) = false := by
          rw [List.any_map, List.any_eq_false]
          intro x _ z
          cases z
        have e2 := q H' p.1
        rw [← e] at e2
        exact e2
/-! few_least_of -/
theorem scFew : FnScope ["products", "once", "found", "product", "one"] ["products"] (defScope sFew) := ⟨rfl, rfl, rfl, by decide +kernel, rfl, by decide +kernel, by decide +kernel⟩
structure Anti (d : Nat) (ms : List (List Int)) : Prop where
  pos : 1 ≤ d
  small : d ≤ 8
  rows : ∀ m ∈ ms, m.length = d ∧ ∀ y ∈ m, 0 ≤ y ∧ y ≤ 8
  nodup : ms.Nodup
  anti : ∀ x ∈ ms, ∀ y ∈ ms, x ≠ y → dv x y = false
  len : ms.length ≤ 24
theorem Anti.perm {d : Nat} {ms ns : List (List Int)} (a : Anti d ms) (p : ns.Perm ms) : Anti d ns :=
  ⟨a.pos, a.small, fun m h => a.rows m (p.mem_iff.mp h), p.symm.nodup a.nodup, fun x hx y hy => a.anti x (p.mem_iff.mp hx) y (p.mem_iff.mp hy), by rw [p.length_eq]; exact a.len⟩
def spFew (K : PySem.W.Frag) : Sp := fun vs H Q _ => ∃ (a : Addr) (L : List (Addr × List Int)) (d : Nat), vs = [.ref a] ∧ SqT K H a (refsOf L) ∧ RowsAt H L ∧ Anti d (rowsOf L) ∧
  ∀ (H' : Hp) (p : Addr) (L' : List (Addr × List Int)), Same H H' → H' p = some (.tup (refsOf L')) → RowsAt H' L' → (rowsOf L').Perm (rowsOf L) → Q (.ref p) H'
theorem perm_map {α β : Type} (f : α → β) : ∀ {L : List α} {ys : List β}, ys.Perm (L.map f) → ∃ L' : List α, ys = L'.map f ∧ L'.Perm L
  | [], ys, h => ⟨[], List.Perm.eq_nil h, .refl _⟩
  | x :: L, ys, h => by
    have hx : f x ∈ ys := h.mem_iff.mpr List.mem_cons_self
    obtain ⟨s, t, rfl⟩ := List.append_of_mem hx
    have h2 : (s ++ t).Perm (L.map f) := by
      have h3 : (f x :: (s ++ t)).Perm (f x :: L.map f) := (List.perm_middle).symm.trans h
      exact List.Perm.cons_inv h3
    obtain ⟨L', e, p⟩ := perm_map f h2
    obtain ⟨A, B, rfl, e1, e2⟩ := List.map_eq_append_iff.mp e.symm
    refine ⟨A ++ x :: B, ?_, ?_⟩
    · rw [List.map_append, List.map_cons, e1, e2]
    · exact (List.perm_middle).trans (p.cons x)
theorem take_refs {L : List (Addr × List Int)} {i j : Nat} {v : V} (h : ((refsOf L).take i)[j]? = some v) : j < i ∧ ∃ x, L[j]? = some x ∧ v = .ref x.1 := by
  rw [List.getElem?_take] at h
  by_cases c : j < i
  · rw [if_pos c] at h
    exact ⟨c, refs_get h⟩
  · rw [if_neg c] at h
    cases h
theorem nodup_ix_rows {l : List (List Int)} (hn : l.Nodup) {i j : Nat} {m : List Int} (a : l[i]? = some m) (b : l[j]? = some m) : i = j := by
  have ⟨i1, at1⟩ := List.getElem?_eq_some_iff.mp a
  have ⟨j1, at2⟩ := List.getElem?_eq_some_iff.mp b
  exact (List.getElem_inj hn).mp (at1.trans at2.symm)
theorem rows_ne {L : List (Addr × List Int)} (hn : (rowsOf L).Nodup) {i j : Nat} {x y : Addr × List Int} (hx : L[i]? = some x) (hy : L[j]? = some y) (h : j < i) : y.2 ≠ x.2 := by
  intro e
  have a : (rowsOf L)[i]? = some x.2 := by rw [List.getElem?_map, hx] <;> rfl
  have b : (rowsOf L)[j]? = some y.2 := by rw [List.getElem?_map, hy] <;> rfl
  rw [e] at b
  have := nodup_ix_rows hn a b
  omega
abbrev teFewI (K : PySem.W.Frag) : TE := tCall (spDiv K) [] E0 (tCons (tVar 4) (tCons (tVar 3) tNil))
theorem ok_few (S : Src K mg "few_least_of" sFew ["products"]) (B : Bl mg) (m1 : IsN mg "MAX_MEMBERS" 24) (C1 : Cal P w K mg base CX0 1 "are_long" ["products"] (spLong K)) (C2 : Cal P w K mg base CX0 1 "divides" ["one", "other"] (spDiv K)) :
    Cal P w K mg base CX0 2 "few_least_of" ["products"] (spFew K) := by
  refine cal_of S scFew (fun vs H Q E h => ?_) (fun f cdv A outer s H vs Q E hr h => ?_)
  · obtain ⟨a, L, d, rfl, _⟩ := h
    rfl
  · obtain ⟨a, L, d, rfl, ha, hR, hA, q⟩ := h
    obtain ⟨t1, m1⟩ := m1
    refine ⟨_, pss_cons (ps_set (i := 1) scFew.nd rfl (Or.inl rfl) (pe_sortSum rfl hr.units (by rfl) B.sorted (by rfl) B.sum (pe_once rfl hr.units0 rfl (by decide +kernel) (by decide +kernel) (by decide +kernel) (pv 0))))
      (pss_cons (ps_if (PW.pt (pw_and (pt_val (pe_cal C1 hr pass0 (pa_cons (pv 1) pa_nil))) (pw_and1 pt_none))) (pss_one ps_never) pss_nil)
      (pss_cons (ps_set (i := 2) scFew.nd rfl (Or.inl rfl) (pe_lst pa_nil))
      (pss_cons (ps_for PassesOwn.never rfl (pi_list (pv 1)) (pg_name (i := 3) scFew.nd rfl (Or.inr rfl))
        (pss_one (ps_if (pt_not (pt_val (pe_callB (cr_any rfl) (by rfl) B.any (by decide +kernel) (pa_cons (pe_lc (own := [("one", 4)]) (g := gName 4) (te := teFewI K) rfl scFew.nd (pi_list (pv 2))
            (blkOk_by (N := ["products", "once", "found", "product", "one"]) (sc := defScope sFew) (by decide +kernel))
            (fun _ _ _ _ _ => pg_name (i := 4) scFew.nd rfl (Or.inl rfl)) (fun _ _ _ _ _ => pts_nil)
            (fun _ _ _ _ _ => by exact pe_cal C2 hr pass0 (pa_cons (pv 4) (pa_cons (pv 3) pa_nil)))) pa_nil))))
          (pss_cons (ps_expr (pe_bm PySem.F.plainAttrs_list PySem.F.slot_list_append PySem.F.type_list_append mt_append (pv 2) (pa_cons (pv 3) pa_nil)))
            (pss_one (ps_if (pt_cmpR op_gt (pe_callB call_len_seq (by rfl) B.len PySem.boot_len (pa_cons (pv 2) pa_nil)) (pe_glob (v := .int 24) (by rfl) m1 ⟨_, rfl⟩) (nomark _)) (pss_one ps_never) pss_nil)))
          pss_nil)))
      (pss_one (ps_ret (pe_tupleOf (by rfl) B.tuple (pe_callB (cr_sortT (d := d) (B := 9) hA.pos) (by rfl) B.sorted (by decide +kernel) (pa_cons (pv 2) pa_nil)))))))), ?_⟩
    have few : L.length ≤ 1000 := by
      have z := hA.len
      rw [List.length_map] at z
      omega
    refine ⟨_, rfl, a, L, rfl, ha, hR, hA.nodup, few, fun D hD => ?_⟩
    obtain ⟨H1, eH1⟩ : ∃ H1, H1 = upd H D (.dT ((L.map (·.2)).map entR)) := ⟨_, rfl⟩
    have s1 : Same H H1 := by
      rw [eH1]
      exact same_upd hD
    have hD1 : H1 D = some (.dT ((rowsOf L).map entR)) := by
      rw [eH1]
      exact upd_same
    rw [← eH1]
    clear eH1
    · refine ⟨D, rowsOf L, rfl, hD1, Nat.le_trans hA.len (by decide), fun L1 p1 hpm hR1 hp1 => ?_⟩
      have hA1 := hA.perm hpm
      have s2 : Same H1 (upd H1 p1 (.lst (refsOf L1))) := same_upd hp1
      have hR1' : RowsAt H1 L1 := hR1
      have hR2 := hR1'.same s2
      have l24 : L1.length ≤ 24 := by
        have := hA1.len
        rw [List.length_map] at this
        exact this
      refine ⟨_, rfl, p1, L1, rfl, SqL.of upd_same, hR2, Nat.le_trans l24 (by decide), fun x hx => ?_, fun H3 s3 => ⟨_, rfl, iteF (iteF ?_)⟩⟩
      · obtain ⟨e1, e2⟩ := hA1.rows x.2 (List.mem_map.mpr ⟨x, hx, rfl⟩)
        exact ⟨by rw [e1]; exact hA.pos, fun y hy => Int.le_trans (e2 y hy).2 (by decide)⟩
      · have h1 : H3 p1 = some (.lst (refsOf L1)) := s3 _ _ upd_same
        have s13 : Same H H3 := (s1.trans s2).trans s3
        have hR3 := hR2.same s3
        refine ⟨by show 0 ≤ sizeLine; exact Nat.zero_le _, fun F hF => ?_⟩
        refine ⟨_, rfl, p1, rfl, ⟨_, SqL.of ((same_upd hF) _ _ h1)⟩, for_list (xs := refsOf L1) (fun i σ H' => ∃ v, σ = [some (.ref a), some (.ref p1), some (.ref F), v, none] ∧ Same H3 H' ∧ H' F = some (.lst ((refsOf L1).take i)))
          ⟨none, rfl, same_upd hF, upd_same⟩ (fun i σ H' _ ⟨_, _, s4, _⟩ => SqL.of (s4 _ _ h1)) ?_ ?_⟩
        · rintro i x σ H4 hx ⟨v, rfl, s4, hF4⟩
          obtain ⟨y, ey, rfl⟩ := refs_get hx
          have hy := List.mem_of_getElem? ey
          have hi : i < L1.length := (List.getElem?_eq_some_iff.mp ey).1
          have hR4 := hR3.same s4
          obtain ⟨y1, y2⟩ := hA1.rows y.2 (List.mem_map.mpr ⟨y, hy, rfl⟩)
          refine ⟨_, rfl, F, rfl, ⟨_, SqL.of hF4⟩, fun D2 hD2 => lc_it (walk_list (xs := (refsOf L1).take i)) (PvS H4 D2 fun j => some (.bl false)) (pvs_zero hD2) (fun j H' _ p => p.1.seq (SqL.of hF4)) ?_ ?_⟩
          · rintro j z H5 H6 hj p ⟨rfl, hz⟩
            obtain ⟨hji, u, eu, rfl⟩ := take_refs hz
            have hu := List.mem_of_getElem? eu
            obtain ⟨u1, u2⟩ := hA1.rows u.2 (List.mem_map.mpr ⟨u, hu, rfl⟩)
            have hR5 := hR4.same p.1
            have hd1 : d ≤ 1000 := Nat.le_trans hA.small (by decide)
            refine ⟨rfl, _, rfl, _, rfl, u.1, y.1, u.2, y.2, rfl, SqT.of (hR5 u hu), SqT.of (hR5 y hy), by rw [u1]; exact hd1, fun H7 s7 => ?_⟩
            refine pvs_push hD2 p s7 ?_ (Nat.lt_of_lt_of_le (Nat.lt_trans hji (Nat.lt_of_lt_of_le hi l24)) (by decide))
            rw [hA1.anti u.2 (List.mem_map.mpr ⟨u, hu, rfl⟩) y.2 (List.mem_map.mpr ⟨y, hy, rfl⟩) (rows_ne hA1.nodup ey eu hji)]
          · intro H5 p
            have lt : ((refsOf L1).take i).length = i := by rw [List.length_take, List.length_map]; omega
            rw [lt] at p
            have hF5 := p.1 _ _ hF4
            have ea : ((List.range i).map (fun _ => false)).any (fun b => b) = false := by
              rw [List.any_map, List.any_eq_false]
              intro x _ z
              cases z
            refine ⟨D2, (List.range i).map (fun _ => false), rfl, SqL.of ?_, _, rfl, ?_⟩
            · rw [p.2, fm_some, List.map_map]
              rfl
            · refine ite2 (fun _ => ?_) (fun c => ?_)
              · refine ⟨_, rfl, .inl ⟨rfl, _, SqL.of hF5⟩, _, rfl, F, _, _, rfl, rfl, hF5, by rw [lt]; exact Nat.lt_of_lt_of_le (Nat.lt_of_lt_of_le hi l24) (by decide), ?_⟩
                refine ⟨_, rfl, F, _, rfl, .inl (SqL.of upd_same), _, _, rfl, rfl, _, rfl, ?_⟩
                have ef : decide ((24 : Int) < (((refsOf L1).take i ++ [V.ref y.1]).length : Nat)) = false := by
                  rw [List.length_append, lt, List.length_singleton, decide_eq_false_iff_not]
                  omega
                rw [ef]
                refine iteF ⟨some (.ref y.1), rfl, fun b u e => ?_, ?_⟩
                · rw [upd_ne (ne_of_none e hF)]
                  exact p.1 _ _ (s4 _ _ e)
                · rw [upd_same, take_snoc hx]
              · refine absurd ?_ c
                show (!((List.range i).map (fun _ => false)).any (fun b => b)) = true
                rw [ea]
                rfl
        · rintro σ H4 ⟨v, rfl, s4, hF4⟩
          have hR4 := hR3.same s4
          rw [List.take_length] at hF4
          refine ⟨_, rfl, F, _, rfl, SqL.of hF4, by rw [List.length_map]; exact Nat.lt_of_le_of_lt l24 (by decide), fun x hx => ?_, fun ys p2 hpy _ hp2 => .inl ⟨p2, ys, rfl, SqL.of upd_same, fun p3 hp3 => ?_⟩⟩
          · obtain ⟨y, hy, rfl⟩ := List.mem_map.mp hx
            obtain ⟨e1, e2⟩ := hA1.rows y.2 (List.mem_map.mpr ⟨y, hy, rfl⟩)
            exact ⟨y.2, ⟨y.1, rfl, SqT.of (hR4 y hy)⟩, e1, fun m hm => by have := e2 m hm; omega⟩
          · obtain ⟨L2, rfl, hp12⟩ := perm_map (fun x : Addr × List Int => V.ref x.1) hpy
            have s5 : Same H4 (upd (upd H4 p2 (.lst (refsOf L2))) p3 (.tup (refsOf L2))) := (same_upd hp2).trans (same_upd hp3)
            refine q _ p3 L2 ((s13.trans s4).trans s5) upd_same (fun x hx => s5 _ _ (hR4 x (hp12.mem_iff.mp hx))) ((hp12.map _).trans hpm)
end
end K14

set_option maxHeartbeats 4000000
/-! is_passed_member, members_told, Lot.__init__ -/
namespace K14
open PySem PySem.Spec PyProof.Rows L2
abbrev sPassed : Stmt := top 39
abbrev sTold : Stmt := top 40
def spPassed (K : PySem.W.Frag) : Sp := fun vs H Q _ => ∃ (n : Nat) (x : Addr) (m : List Int), vs = [.int n, .ref x] ∧ H x = some (.tup (m.map V.int)) ∧ m.length = n ∧ n ≤ 8 ∧ (∀ y ∈ m, 0 ≤ y ∧ y ≤ 8) ∧ ∀ H', Same H H' → Q (.bl true) H'
def spTold (K : PySem.W.Frag) : Sp := fun vs H Q _ => ∃ (n : Nat) (M : Addr) (L : List (Addr × List Int)), vs = [.int n, .ref M] ∧ H M = some (.tup (refsOf L)) ∧ RowsAt H L ∧ Anti n (rowsOf L) ∧
  ∀ (H' : Hp) (p : Addr) (L' : List (Addr × List Int)), Same H H' → H' p = some (.tup (refsOf L')) → RowsAt H' L' → (rowsOf L').Perm (rowsOf L) → Q (.ref p) H'
abbrev tePassed (K : PySem.W.Frag) : TE := tCall spWithin [] E0 (tCons (tVar 2) (tCons (tC (.int 0)) (tCons (tC (.int 8)) tNil)))
abbrev teTold (K : PySem.W.Frag) : TE := tCall (spPassed K) [] E0 (tCons (tVar 0) (tCons (tVar 2) tNil))
section
variable {P : Program} {w : World} {K : PySem.W.Frag} {mg : Str → Option Value} {base : Heap}
theorem scPassed : FnScope ["letters", "value", "exponent"] ["letters", "value"] (defScope sPassed) := ⟨rfl, rfl, rfl, by decide +kernel, rfl, by decide +kernel, by decide +kernel⟩
theorem trues (n : Nat) : ((List.range n).map (fun _ => true)).all (fun b => b) = true := by
  rw [List.all_map, List.all_eq_true]
  intro x _
  rfl
theorem ok_passed (S : Src K mg "is_passed_member" sPassed ["letters", "value"]) (B : Bl mg) (m8 : IsN mg "MAX_MEMBER_EXPONENT" 8) (C1 : Cal P w K mg base CX0 2 "is_within" ["value", "least", "greatest"] spWithin) :
    Cal P w K mg base CX0 3 "is_passed_member" ["letters", "value"] (spPassed K) := by
  refine cal_of S scPassed (fun vs H Q E h => ?_) (fun f cdv A outer s H vs Q E hr h => ?_)
  · obtain ⟨n, x, m, rfl, _⟩ := h
    rfl
  · obtain ⟨n, x, m, rfl, hx, hl, hn, hm, q⟩ := h
    obtain ⟨t8, m8⟩ := m8
    refine ⟨_, pss_cons (ps_if (PW.pt (pw_or (pt_not (pt_val (pe_callB call_isi (by rfl) B.isinstance (by decide +kernel) (pa_cons (pv 1) (pa_cons (pe_bltn (v := .ty "tuple") (by rfl) B.tuple (by decide +kernel) rfl) pa_nil)))))
        (pw_or1 (pt_cmpR op_ne (pe_callB call_len_seq (by rfl) B.len PySem.boot_len (pa_cons (pv 1) pa_nil)) (pv 0) (nomark _))))) (pss_one (ps_ret pe_bl)) pss_nil)
      (pss_one (ps_ret (pe_callB (cr_all rfl) (by rfl) B.all (by decide +kernel) (pa_cons (pe_lc (own := [("exponent", 2)]) (g := gName 2) (te := tePassed K) rfl scPassed.nd (pi_tup (pv 1))
        (blkOk_by (N := ["letters", "value", "exponent"]) (sc := defScope sPassed) (by decide +kernel))
        (fun _ _ _ _ _ => pg_name (i := 2) scPassed.nd rfl (Or.inl rfl)) (fun _ _ _ _ _ => pts_nil)
        (fun _ _ _ _ _ => by exact pe_cal C1 hr pass0 (pa_cons (pv 2) (pa_cons pe_int (pa_cons (pe_glob (v := .int 8) (by rfl) m8 ⟨_, rfl⟩) pa_nil))))) pa_nil)))), ?_⟩
    refine ⟨_, rfl, _, _, _, _, true, rfl, .ty "tuple", .base (.tup hx), kit_ty (by decide +kernel), _, rfl, iteF ?_⟩
    refine ⟨_, rfl, x, _, rfl, .inr (SqT.of hx), _, rfl, rfl, _, rfl, ?_⟩
    rw [List.length_map, hl, dV]
    have e1 : (!decide (((n : Nat) : Int) = ((n : Nat) : Int))) = false := by rw [decide_eq_true rfl]; rfl
    rw [e1]
    refine iteF ?_
    refine ⟨_, rfl, x, rfl, ⟨_, SqT.of hx⟩, fun D hD => lc_it walk_tup (PvS H D fun i => some (.bl true)) (pvs_zero hD) (fun i H' _ p => p.1.tupT (SqT.of hx)) ?_ ?_⟩
    · rintro i y H1 H2 hi p ⟨rfl, hy⟩
      obtain ⟨rfl, h1⟩ := map_getD hy
      have hy2 := hm (m.getD i 0) (by rw [List.getD_eq_getElem?_getD, List.getElem?_eq_getElem h1]; exact List.getElem_mem h1)
      refine ⟨rfl, _, rfl, _, 0, 8, rfl, .inl ⟨_, rfl, ?_⟩⟩
      refine pvs_push hD p (Same.refl _) ?_ (Nat.lt_of_lt_of_le h1 (by rw [hl]; exact Nat.le_trans hn (by decide)))
      rw [decide_eq_true hy2.1, decide_eq_true hy2.2]
      rfl
    · intro H1 p
      refine ⟨D, (List.range m.length).map (fun _ => true), rfl, SqL.of ?_, ?_⟩
      · rw [p.2, fm_some, List.map_map, List.length_map]
        rfl
      · have e2 := q H1 p.1
        rw [← trues m.length] at e2
        exact e2
/-! members_told -/
theorem scTold : FnScope ["letters", "members", "member"] ["letters", "members"] (defScope sTold) := ⟨rfl, rfl, rfl, by decide +kernel, rfl, by decide +kernel, by decide +kernel⟩
theorem ok_told {CK : Addr} (S : Src K mg "members_told" sTold ["letters", "members"]) (B : Bl mg) (m200 : IsN mg "MAX_PASSED" 200) (gK : mg "KeptMembers" = some (.ref CK)) (kk : PySem.W.kitOne K (.type "tuple") (.ref CK) = some false)
    (C1 : Cal P w K mg base CX0 3 "is_passed_member" ["letters", "value"] (spPassed K)) (C2 : Cal P w K mg base CX0 2 "few_least_of" ["products"] (spFew K)) :
    Cal P w K mg base CX0 4 "members_told" ["letters", "members"] (spTold K) := by
  refine cal_of S scTold (fun vs H Q E h => ?_) (fun f cdv A outer s H vs Q E hr h => ?_)
  · obtain ⟨n, M, L, rfl, _⟩ := h
    rfl
  · obtain ⟨n, M, L, rfl, hM, hR, hA, q⟩ := h
    obtain ⟨t2, m200⟩ := m200
    refine ⟨_, pss_cons (ps_if (pt_val (pe_callB call_isi (by rfl) B.isinstance (by decide +kernel) (pa_cons (pv 1) (pa_cons (pe_glob (v := .ref CK) (by rfl) gK rfl) pa_nil)))) (pss_one ps_never) pss_nil)
      (pss_cons (ps_if (PW.pt (pw_or (pt_not (pt_val (pe_callB call_isi (by rfl) B.isinstance (by decide +kernel) (pa_cons (pv 1) (pa_cons (pe_bltn (v := .ty "tuple") (by rfl) B.tuple (by decide +kernel) rfl) pa_nil)))))
        (pw_or1 (pt_cmpR op_gt (pe_callB call_len_seq (by rfl) B.len PySem.boot_len (pa_cons (pv 1) pa_nil)) (pe_glob (v := .int 200) (by rfl) m200 ⟨_, rfl⟩) (nomark _))))) (pss_one ps_never) pss_nil)
      (pss_cons (ps_if (pt_not (pt_val (pe_callB (cr_all rfl) (by rfl) B.all (by decide +kernel) (pa_cons (pe_lc (own := [("member", 2)]) (g := gName 2) (te := teTold K) rfl scTold.nd (pi_tup (pv 1))
        (blkOk_by (N := ["letters", "members", "member"]) (sc := defScope sTold) (by decide +kernel))
        (fun _ _ _ _ _ => pg_name (i := 2) scTold.nd rfl (Or.inl rfl)) (fun _ _ _ _ _ => pts_nil)
        (fun _ _ _ _ _ => by exact pe_cal C1 hr pass0 (pa_cons (pv 0) (pa_cons (pv 2) pa_nil)))) pa_nil)))) (pss_one ps_never) pss_nil)
      (pss_one (ps_ret (pe_cal C2 (hr.mono (by decide)) pass0 (pa_cons (pv 1) pa_nil)))))), ?_⟩
    refine ⟨_, rfl, _, _, _, _, false, rfl, .own CK, .base (.tup hM), kk, _, rfl, iteF ?_⟩
    refine ⟨_, rfl, _, _, _, _, true, rfl, .ty "tuple", .base (.tup hM), kit_ty (by decide +kernel), _, rfl, iteF ?_⟩
    have hl := hA.len
    rw [List.length_map] at hl
    refine ⟨_, rfl, M, _, rfl, .inr (SqT.of hM), _, _, rfl, rfl, _, rfl, ?_⟩
    have e1 : decide ((200 : Int) < ((refsOf L).length : Nat)) = false := by
      rw [List.length_map, decide_eq_false_iff_not]
      omega
    rw [e1]
    refine iteF ?_
    refine ⟨_, rfl, M, rfl, ⟨_, SqT.of hM⟩, fun D hD => lc_it walk_tup (PvS H D fun i => some (.bl true)) (pvs_zero hD) (fun i H' _ p => p.1.tupT (SqT.of hM)) ?_ ?_⟩
    · rintro i v H1 H2 hi p ⟨rfl, hv⟩
      obtain ⟨y, ey, rfl⟩ := refs_get hv
      have hy := List.mem_of_getElem? ey
      have hi2 := (List.getElem?_eq_some_iff.mp ey).1
      obtain ⟨y1, y2⟩ := hA.rows y.2 (List.mem_map.mpr ⟨y, hy, rfl⟩)
      refine ⟨rfl, _, rfl, _, rfl, n, y.1, y.2, rfl, p.1 _ _ (hR y hy), y1, hA.small, y2, fun H3 s3 => ?_⟩
      exact pvs_push hD p s3 rfl (Nat.lt_of_lt_of_le (Nat.lt_of_lt_of_le hi2 hl) (by decide))
    · intro H1 p
      refine ⟨D, (List.range L.length).map (fun _ => true), rfl, SqL.of ?_, _, rfl, ?_⟩
      · rw [p.2, fm_some, List.map_map, List.length_map]
        rfl
      · have e2 : (!((List.range L.length).map (fun _ => true)).all (fun b => b)) = false := by
          rw [trues]
          rfl
        refine ite2 (fun c => ?_) (fun c => ?_)
        · have c2 : (!((List.range L.length).map (fun _ => true)).all (fun b => b)) = true := c
          rw [e2] at c2
          cases c2
        · refine ⟨_, rfl, M, L, n, rfl, SqT.of (p.1 _ _ hM), hR.same p.1, hA, fun H' p' L' s' h1 h2 h3 => q H' p' L' (p.1.trans s') h1 h2 h3⟩
/-! Lot.__init__ -/
abbrev sInit : Stmt := inClass (top 38) 1
def SrcM (K : PySem.W.Frag) (C : Addr) (x qual : Str) (st : Stmt) (ps : List Str) : Prop :=
  ∃ f fd, FunD K x qual (defArgs st) (defBody st) (defScope st) [] [] f fd ∧ Mk K C f ∧ Binds K fd ps []
theorem scInit : FnScope ["self", "letters", "members"] ["self", "letters", "members"] (defScope sInit) := ⟨rfl, rfl, rfl, by decide +kernel, rfl, by decide +kernel, by decide +kernel⟩
def spInit (K : PySem.W.Frag) (C : Addr) : Sp := fun vs H Q _ => ∃ (x dx : Addr) (n : Nat) (M : Addr) (L : List (Addr × List Int)), vs = [.ref x, .int n, .ref M] ∧ H x = some (.ins C dx []) ∧ dx ≠ x ∧ H dx = some (.own x) ∧ H M = some (.tup (refsOf L)) ∧ RowsAt H L ∧ Anti n (rowsOf L) ∧
  ∀ (H' : Hp) (M' : Addr) (L' : List (Addr × List Int)) (vs' : List (Option V)), (∀ b u, b ≠ x → b ≠ dx → H b = some u → H' b = some u) → H' x = some (SlX.SlO x C dx vs') → H' dx = some (.xd []) → vs'[0]? = some (some (.int (n : Int))) → vs'[1]? = some (some (.ref M')) →
    H' M' = some (.tup (refsOf L')) → RowsAt H' L' → (rowsOf L').Perm (rowsOf L) → Q .non H'
def CalM (P : Program) (w : World) (K : PySem.W.Frag) (mg : Str → Option Value) (base : Heap) (CX : CXT) (k : Nat) (C : Addr) (ps : List Str) (sp : Sp) : Prop :=
  ∃ f fd, FnOk P w K mg base CX k f fd ps sp ∧ Mk K C f ∧ Binds K fd ps []
theorem ok_init {C : Addr} (S : SrcM K C "__init__" "Lot.__init__" sInit ["self", "letters", "members"]) (LC : LotC K C) (C1 : Cal P w K mg base CX0 4 "require_letters" ["letters"] spReqL) (C2 : Cal P w K mg base CX0 4 "members_told" ["letters", "members"] (spTold K)) :
    CalM P w K mg base CX0 5 C ["self", "letters", "members"] (spInit K C) := by
  obtain ⟨f, fd, F, mk, b⟩ := S
  refine ⟨f, fd, F.ok scInit (fun vs H Q E h => ?_) (fun cdv A outer s H vs Q E hr h => ?_), mk, b⟩
  · obtain ⟨x, dx, n, M, L, rfl, _⟩ := h
    rfl
  · obtain ⟨x, dx, n, M, L, rfl, hx, hne, hdx, hM, hR, hA, q⟩ := h
    obtain ⟨p0, S0⟩ := LC.s0
    obtain ⟨p1, S1⟩ := LC.s1
    refine ⟨_, (pss_cons (ps_expr (pe_cal C1 hr pass0 (pa_cons (pv 1) pa_nil)))
      (pss_cons (SlX.ps_sl (pv 0) (pe_cal C2 hr pass0 (pa_cons (pv 1) (pa_cons (pv 2) pa_nil)))) (pss_one (SlX.ps_sl (pv 0) (pv 1))))).nox, ?_⟩
    refine ⟨_, rfl, n, rfl, by have := hA.pos; omega, by have := hA.small; omega, ?_⟩
    refine ⟨_, rfl, _, rfl, n, M, L, rfl, hM, hR, hA, fun H1 M1 L1 s1 h1 h2 h3 => ?_⟩
    have hx1 := s1 _ _ hx
    have hdx1 := s1 _ _ hdx
    refine ⟨_, rfl, x, C, dx, p1, [], 1, rfl, .inl ⟨hx1, rfl⟩, LC.cls, S1, ?_⟩
    refine ⟨_, rfl, _, rfl, x, C, dx, p0, _, 0, rfl, SlX.slH_slt hne, LC.cls, S0, ?_⟩
    rw [SlX.slH_twice hne]
    have ne1 : ∀ {b : Addr} {u : HO}, H1 b = some u → u ≠ .ins C dx [] → u ≠ .own x → SlX.slH H1 x C dx (SlX.putS 0 (.int (n : Int)) (SlX.putS 1 (.ref M1) [])) b = some u := fun {b u} e n1 n2 => by
      rw [SlX.slH_ne]
      · exact e
      · intro z
        rw [z, hx1] at e
        exact n1 (Option.some.inj e).symm
      · intro z
        rw [z, hdx1] at e
        exact n2 (Option.some.inj e).symm
    refine q _ M1 L1 (SlX.putS 0 (.int (n : Int)) (SlX.putS 1 (.ref M1) [])) (fun b u hb1 hb2 e => ?_) ?_ ?_ rfl rfl (ne1 h1 (fun z => nomatch z) (fun z => nomatch z)) (fun y hy => ne1 (h2 y hy) (fun z => nomatch z) (fun z => nomatch z)) h3
    · rw [SlX.slH_ne hb1 hb2]
      exact s1 _ _ e
    · unfold SlX.slH
      exact upd_same
    · unfold SlX.slH
      rw [upd_ne hne]
      exact upd_same
/-- Lot(letters, members): what stands behind it -/
theorem lot_made {C : Addr} {n : Nat} {M x dx : Addr} {L : List (Addr × List Int)} {H : Hp} {Q : VK} {E : XK} (hM : H M = some (.tup (refsOf L))) (hR : RowsAt H L) (hA : Anti n (rowsOf L)) (hx : H x = none) (hdx : H dx = none) (hne : dx ≠ x)
    (q : ∀ (H' : Hp) (x : Addr) (ms : List (List Int)), Same H H' → LotAt K H' x C n ms → ms.Perm (rowsOf L) → Q (.ref x) H') :
    spInit K C (.ref x :: ([.int n, .ref M] ++ [])) (upd (upd H dx (.own x)) x (.ins C dx [])) (fun v H2 => v = .non ∧ Q (.ref x) H2) E := by
  have hx1 : (upd H dx (.own x)) x = none := by
    rw [upd_ne (Ne.symm hne)]
    exact hx
  have s1 : Same H (upd (upd H dx (.own x)) x (.ins C dx [])) := (same_upd hdx).trans (same_upd hx1)
  refine ⟨x, dx, n, M, L, rfl, upd_same, hne, ?_, s1 _ _ hM, hR.same s1, hA, fun H' M' L' vs' h0 h1 h2 h3 h4 h5 h6 h7 => ⟨rfl, ?_⟩⟩
  · rw [upd_ne hne]
    exact upd_same
  · refine q H' x (rowsOf L') (fun b u e => h0 b u (ne_of_none e hx) (ne_of_none e hdx) (s1 _ _ e)) ⟨dx, vs', M', L'.map (·.1), h1, h2, h3, h4, ?_, h6.rows⟩ h7
    rw [refs_map]
    exact SqT.of h5
end
end K14

set_option maxHeartbeats 4000000
/-! _law_jug, _law_pour, _law_taken -/
namespace K14
open PySem PySem.Spec PyProof.Rows L2
abbrev sJug : Stmt := top 58
abbrev sPour : Stmt := top 59
abbrev sTaken : Stmt := top 60
def JugAt (H : Hp) (j : Addr) : Prop := ∃ a b c : Int, H j = some (.lst [.int a, .int b, .int c])
/-- H' is H, grown, but for the jug at j -/
structure SJ (j : Addr) (H H' : Hp) : Prop where
  jug : JugAt H j
  jug' : JugAt H' j
  at_ : ∀ b u, b ≠ j → H b = some u → H' b = some u
section
variable {j : Addr} {H H1 H2 : Hp}
theorem SJ.refl (t : JugAt H j) : SJ j H H := ⟨t, t, fun _ _ _ e => e⟩
theorem SJ.trans (a : SJ j H H1) (b : SJ j H1 H2) : SJ j H H2 := ⟨a.jug, b.jug', fun c u n q => b.at_ c u n (a.at_ c u n q)⟩
theorem jug_same (e : Same H H1) (t : JugAt H j) : JugAt H1 j := by
  obtain ⟨a, b, c, h⟩ := t
  exact ⟨a, b, c, e _ _ h⟩
theorem SJ.of_same (e : Same H H1) (t : JugAt H j) : SJ j H H1 := ⟨t, jug_same e t, fun b u _ q => e b u q⟩
theorem SJ.same (a : SJ j H H1) (b : Same H1 H2) : SJ j H H2 := a.trans (.of_same b a.jug')
theorem SJ.keep (s : SJ j H H1) {b : Addr} {u : HO} (e : H b = some u) (h : ∀ xs, u ≠ .lst xs) : H1 b = some u := by
  refine s.at_ b u (fun z => ?_) e
  obtain ⟨x, y, w, hp⟩ := s.jug
  rw [z, hp] at e
  exact h _ (Option.some.inj e).symm
theorem SJ.free (s : SJ j H H1) {b : Addr} (e : H1 b = none) : H b = none := by
  cases q : H b with
  | none => rfl
  | some u =>
    by_cases z : b = j
    · obtain ⟨x, y, w, hp⟩ := s.jug'
      rw [z, hp] at e
      cases e
    · rw [s.at_ b u z q] at e
      cases e
theorem SJ.set {a b c : Int} (t : JugAt H j) : SJ j H (upd H j (.lst [.int a, .int b, .int c])) := ⟨t, ⟨a, b, c, upd_same⟩, fun b u n e => by rw [upd_ne n]; exact e⟩
end
def spPour : Sp := fun vs H Q _ => ∃ (j : Addr) (t : Int), vs = [.ref j, .int t] ∧ JugAt H j ∧ 0 < t ∧ t < 1000 ∧ ∀ (r : Int) (H' : Hp), 0 ≤ r → r < t → SJ j H H' → Q (.int r) H'
def spJug (K : PySem.W.Frag) : Sp := fun vs H Q _ => ∃ (a : Addr) (ns : List Int) (k : Nat), vs = [.ref a, .int k] ∧ SqL K H a (ns.map V.int) ∧ k ≤ 2 ∧ ∀ (H' : Hp) (p : Addr), Same H H' → H p = none → JugAt H' p → Q (.ref p) H'
section
variable {P : Program} {w : World} {K : PySem.W.Frag} {mg : Str → Option Value} {base : Heap}
theorem scPour : FnScope ["_law_jug_here", "_law_total", "_law_found", "_law_one", "_law_two"] ["_law_jug_here", "_law_total"] (defScope sPour) := ⟨rfl, rfl, rfl, by decide +kernel, rfl, by decide +kernel, by decide +kernel⟩
theorem ok_pour (S : Src K mg "_law_pour" sPour ["_law_jug_here", "_law_total"]) (B : Bl mg) : Cal P w K mg base CX0 1 "_law_pour" ["_law_jug_here", "_law_total"] spPour := by
  refine cal_of S scPour (fun vs H Q E h => ?_) (fun f cdv A outer s H vs Q E hr h => ?_)
  · obtain ⟨j, t, rfl, _⟩ := h
    rfl
  · obtain ⟨j, t, rfl, hj, ht, ht2, q⟩ := h
    obtain ⟨a, b, c, hj⟩ := hj
    have hJ : JugAt H j := ⟨a, b, c, hj⟩
    refine ⟨_, pss_cons (ps_if (pt_cmpR op_gt (pe_ix ix_list (pv 0) pe_int (fun _ _ => rfl)) pe_int (nomark _))
        (pss_cons (ps_set (i := 2) scPour.nd rfl (Or.inl rfl) (pe_op op_mod (pe_callTy call_int1 (by rfl) B.int (by decide +kernel) (pa_cons (pe_ix ix_list (pv 0) pe_int (fun _ _ => rfl)) pa_nil)) (pv 1)))
        (pss_cons (ps_asg (pe_op op_fdivN (pe_callTy call_int1 (by rfl) B.int (by decide +kernel) (pa_cons (pe_ix ix_list (pv 0) pe_int (fun _ _ => rfl)) pa_nil)) (pv 1)) (pg_sub (pv 0) pe_int set_list))
        (pss_one (ps_ret (pv 2))))) pss_nil)
      (pss_cons (ps_asg (pe_op op_add (pe_ix ix_list (pv 0) pe_int (fun _ _ => rfl)) pe_int) (pg_sub (pv 0) pe_int set_list))
      (pss_cons (ps_set (i := 3) scPour.nd rfl (Or.inl rfl) (pe_op op_mod (pe_callTy call_int1 (by rfl) B.int (by decide +kernel) (pa_cons (pe_op op_add (pe_ix ix_list (pv 0) pe_int (fun _ _ => rfl)) (pe_op op_mul pe_int (pe_ix ix_list (pv 0) pe_int (fun _ _ => rfl)))) pa_nil)) pe_int))
      (pss_cons (ps_set (i := 4) scPour.nd rfl (Or.inl rfl) (pe_op op_mod (pe_callTy call_int1 (by rfl) B.int (by decide +kernel) (pa_cons (pe_op op_add (pe_op op_add (pe_op op_mul (pv 3) (pv 3)) (pe_op op_mul pe_int (pe_ix ix_list (pv 0) pe_int (fun _ _ => rfl)))) pe_int) pa_nil)) pe_int))
      (pss_one (ps_ret (pe_op op_mod (pe_callTy call_int1 (by rfl) B.int (by decide +kernel) (pa_cons (pe_op op_fdivN (pe_op op_mul (pv 4) (pe_op op_add (pe_op op_mod (pv 3) pe_int) pe_int)) pe_int) pa_nil)) (pv 1))))))), ?_⟩
    have at0 : atI [V.int a, V.int b, V.int c] 0 = some (V.int a) := atI_nat (j := 0) rfl
    have at2 : atI [V.int a, V.int b, V.int c] 2 = some (V.int c) := atI_nat (j := 2) rfl
    refine ⟨_, rfl, j, _, _, _, rfl, rfl, SqL.of hj, at0, _, _, rfl, rfl, _, rfl, ?_⟩
    refine ite2 (fun _ => ?_) (fun _ => ?_)
    · refine ⟨_, rfl, j, _, _, _, rfl, rfl, SqL.of hj, at0, .inl ⟨a, rfl, _, rfl, _, _, rfl, rfl, ht, ?_⟩⟩
      refine ⟨_, rfl, j, _, _, _, rfl, rfl, SqL.of hj, at0, .inl ⟨a, rfl, _, rfl, _, _, rfl, rfl, ⟨by omega, by omega⟩, ?_⟩⟩
      refine ⟨_, rfl, j, _, _, 0, rfl, rfl, hj, rfl, ?_⟩
      exact ⟨_, rfl, q _ _ (Int.emod_nonneg _ (by omega)) (Int.emod_lt_of_pos _ ht) (SJ.set hJ)⟩
    · refine ⟨_, rfl, j, _, _, _, rfl, rfl, SqL.of hj, at2, _, _, rfl, rfl, ?_⟩
      refine ⟨_, rfl, j, _, _, 2, rfl, rfl, hj, rfl, ?_⟩
      have at1' : atI [V.int a, V.int b, V.int (c + 1)] 1 = some (V.int b) := atI_nat (j := 1) rfl
      have at2' : atI [V.int a, V.int b, V.int (c + 1)] 2 = some (V.int (c + 1)) := atI_nat (j := 2) rfl
      have hj' : (upd H j (.lst [.int a, .int b, .int (c + 1)])) j = some (.lst [.int a, .int b, .int (c + 1)]) := upd_same
      refine ⟨_, rfl, j, _, _, _, rfl, rfl, SqL.of hj', at1', _, rfl, j, _, _, _, rfl, rfl, SqL.of hj', at2', _, _, rfl, rfl, .inl ⟨by decide, by decide⟩, _, _, rfl, rfl, .inl ⟨_, rfl, _, _, rfl, rfl, by show (0 : Int) < 2305843009213693951; decide, ?_⟩⟩
      generalize h1 : (b + 141650939 * (c + 1)) % 2305843009213693951 = one
      have o1 : 0 ≤ one := by rw [← h1]; exact Int.emod_nonneg _ (by decide)
      have o2 : one < 2305843009213693951 := by rw [← h1]; exact Int.emod_lt_of_pos _ (by decide)
      refine ⟨_, rfl, _, rfl, _, _, rfl, rfl, .inl ⟨by omega, by omega⟩, _, rfl, j, _, _, _, rfl, rfl, SqL.of hj', at2', _, _, rfl, rfl, .inl ⟨by decide, by decide⟩, _, _, rfl, rfl, _, _, rfl, rfl, .inl ⟨_, rfl, _, _, rfl, rfl, by show (0 : Int) < 1152921504606846883; decide, ?_⟩⟩
      generalize h2 : (one * one + 86028121 * (c + 1) + 7) % 1152921504606846883 = two
      have t1 : 0 ≤ two := by rw [← h2]; exact Int.emod_nonneg _ (by decide)
      have t2 : two < 1152921504606846883 := by rw [← h2]; exact Int.emod_lt_of_pos _ (by decide)
      refine ⟨_, rfl, _, rfl, _, _, rfl, rfl, by show (0 : Int) < 1031; decide, _, _, rfl, rfl, _, _, rfl, rfl, .inl ⟨by omega, by omega⟩, _, _, rfl, rfl, ⟨by decide, by decide⟩, .inl ⟨_, rfl, _, rfl, _, _, rfl, rfl, ht, ?_⟩⟩
      exact q _ _ (Int.emod_nonneg _ (by omega)) (Int.emod_lt_of_pos _ ht) (SJ.set hJ)
end
end K14

set_option maxHeartbeats 4000000
/-! _law_jug, _law_taken, _law_product -/
namespace K14
open PySem PySem.Spec PyProof.Rows L2
abbrev sProd : Stmt := top 64
def spTaken (K : PySem.W.Frag) : Sp := fun vs H Q _ => ∃ (j a : Addr) (ns : List Int), vs = [.ref j, .ref a] ∧ JugAt H j ∧ a ≠ j ∧ SqL K H a (ns.map V.int) ∧ 0 < ns.length ∧ ns.length < 1000 ∧ ∀ (r : Int) (H' : Hp), r ∈ ns → SJ j H H' → Q (.int r) H'
def spProd (K : PySem.W.Frag) : Sp := fun vs H Q _ => ∃ (j : Addr) (n : Nat) (k : Int), vs = [.ref j, .int n, .int k] ∧ JugAt H j ∧ n ≤ 8 ∧ 1 ≤ k ∧ k ≤ 3 ∧
  ∀ (H' : Hp) (p : Addr) (m : List Int), SJ j H H' → H p = none → H' p = some (.tup (m.map V.int)) → m.length = n → (∀ y ∈ m, 0 ≤ y ∧ y ≤ 3) → Q (.ref p) H'
theorem cut_ints (ns : List Int) (lo hi : Option Int) : ∃ ms : List Int, cutV (ns.map V.int) lo hi = ms.map V.int := by
  unfold cutV
  rw [List.length_map, ← List.map_drop, ← List.map_take]
  exact ⟨_, rfl⟩
section
variable {P : Program} {w : World} {K : PySem.W.Frag} {mg : Str → Option Value} {base : Heap}
theorem scJug : FnScope ["_law_script", "_law_turn", "_law_cell", "_law_great"] ["_law_script", "_law_turn"] (defScope sJug) := ⟨rfl, rfl, rfl, by decide +kernel, rfl, by decide +kernel, by decide +kernel⟩
theorem bits57 : CPowB 10 57 := ⟨by decide, by decide +kernel⟩
theorem bits6 : CPowB (10 ^ Int.toNat 57) 6 := ⟨by decide, by decide +kernel⟩
theorem bits17 : CPowB 10 17 := ⟨by decide, by decide +kernel⟩
theorem ok_jug (S : Src K mg "_law_jug" sJug ["_law_script", "_law_turn"]) (B : Bl mg) : Cal P w K mg base CX0 1 "_law_jug" ["_law_script", "_law_turn"] (spJug K) := by
  refine cal_of S scJug (fun vs H Q E h => ?_) (fun f cdv A outer s H vs Q E hr h => ?_)
  · obtain ⟨a, ns, k, rfl, _⟩ := h
    rfl
  · obtain ⟨a, ns, k, rfl, ha, hk, q⟩ := h
    refine ⟨_, pss_cons (ps_set (i := 2) scJug.nd rfl (Or.inl rfl) (pe_ifExp (pt_cmpR op_lt (pv 1) (pe_callB call_len_seq (by rfl) B.len PySem.boot_len (pa_cons (pv 0) pa_nil)) (nomark _))
        (pe_callTy call_int1 (by rfl) B.int (by decide +kernel) (pa_cons (pe_ix ix_list (pv 0) (pv 1) (fun _ _ => rfl)) pa_nil))
        (pe_op op_add (pe_op op_add (pe_op op_mul pe_int (pv 1)) pe_int) (pe_op op_mod (pe_callTy call_int1 (by rfl) B.int (by decide +kernel) (pa_cons (pe_callB (cr_sum rfl) (by rfl) B.sum (by decide +kernel) (pa_cons (pe_slice sl_list (pv 0) po_none (po_some pe_int)) pa_nil)) pa_nil)) pe_int))))
      (pss_cons (ps_set (i := 3) scJug.nd rfl (Or.inl rfl) (pe_op op_mod (pe_callB call_abs (by rfl) B.abs (by decide +kernel) (pa_cons (pv 2) pa_nil)) (pe_op op_powB (pe_op op_powB pe_int pe_int) pe_int)))
      (pss_one (ps_ret (pe_lst (pa_cons (pe_callB (call_max2 rfl) (by rfl) B.max (by decide +kernel) (pa_cons pe_int (pa_cons (pe_op op_sub (pv 3) (pe_op op_powB pe_int pe_int)) pa_nil)))
        (pa_cons (pe_op op_add (pe_op op_add (pe_op op_add (pe_op op_mul (pe_op op_mod (pv 3) pe_int) pe_int) (pe_op op_mul pe_int (pv 1))) (pe_op op_mul pe_int (pe_callTy call_int1 (by rfl) B.int (by decide +kernel) (pa_cons (pe_cmpR op_lt (pv 2) pe_int (nomark _)) pa_nil)))) pe_int)
          (pa_cons pe_int pa_nil))))))), ?_⟩
    have pos6 : (0 : Int) < (10 ^ Int.toNat 57) ^ Int.toNat 6 := by decide +kernel
    refine ⟨_, rfl, _, rfl, a, _, rfl, .inl ha, _, _, rfl, rfl, _, rfl, ?_⟩
    refine ite2 (fun c => ?_) (fun c => ?_)
    · have c' := of_decide_eq_true c
      rw [List.length_map] at c'
      have c2 : k < ns.length := by omega
      have hk2 : (ns.map V.int)[k]? = some (.int (ns.getD k 0)) := by
        rw [List.getElem?_map, List.getElem?_eq_getElem c2, List.getD_eq_getElem?_getD, List.getElem?_eq_getElem c2]
        rfl
      exact ⟨_, rfl, _, rfl, a, _, _, _, rfl, rfl, ha, atI_nat hk2, .inl ⟨_, rfl, _, rfl, _, rfl, _, _, rfl, rfl, bits57, _, _, rfl, rfl, bits6, _, _, rfl, rfl, pos6, _, rfl, _, _, rfl, rfl, bits17, _, _, rfl, rfl, _, _, rfl, _, rfl, _, _, rfl, rfl, (by decide : (0 : Int) < 1000000000177), _, _, rfl, rfl, .inr ⟨by decide, by decide⟩, _, rfl, _, _, rfl, rfl, .inl ⟨by decide, by decide⟩, _, _, rfl, rfl, _, rfl, _, _, rfl, rfl, .inr ⟨_, rfl, _, _, rfl, rfl, .inl ⟨by decide, by decide⟩, _, _, rfl, rfl, _, _, rfl, rfl, (by show 3 ≤ sizeLine; decide), fun p hp => q _ p (same_upd hp) hp ⟨_, _, _, upd_same⟩⟩⟩⟩
    · obtain ⟨ms, em⟩ := cut_ints ns none (some 1)
      refine ⟨_, rfl, _, _, rfl, rfl, .inl ⟨by decide, by decide⟩, _, _, rfl, rfl, _, rfl, _, rfl, a, _, rfl, ha, fun p1 hp1 => ⟨p1, ms, rfl, SqL.of (by rw [upd_same, em]), .inl ⟨_, rfl, _, _, rfl, rfl, (by decide : (0 : Int) < 1000033), _, _, rfl, rfl, ?_⟩⟩⟩
      exact ⟨_, rfl, _, rfl, _, _, rfl, rfl, bits57, _, _, rfl, rfl, bits6, _, _, rfl, rfl, pos6, _, rfl, _, _, rfl, rfl, bits17, _, _, rfl, rfl, _, _, rfl, _, rfl, _, _, rfl, rfl, (by decide : (0 : Int) < 1000000000177), _, _, rfl, rfl, .inr ⟨by decide, by decide⟩, _, rfl, _, _, rfl, rfl, .inl ⟨by decide, by decide⟩, _, _, rfl, rfl, _, rfl, _, _, rfl, rfl, .inr ⟨_, rfl, _, _, rfl, rfl, .inl ⟨by decide, by decide⟩, _, _, rfl, rfl, _, _, rfl, rfl, (by show 3 ≤ sizeLine; decide), fun p hp => q _ p ((same_upd hp1).trans (same_upd hp)) ((same_upd hp1).free hp) ⟨_, _, _, upd_same⟩⟩⟩
end
end K14

set_option maxHeartbeats 4000000
/-! _law_taken, _law_product, _law_least, _law_members -/
namespace K14
open PySem PySem.Spec PyProof.Rows L2
abbrev sLeast : Stmt := top 63
abbrev sMem : Stmt := top 65
def spTaken2 (K : PySem.W.Frag) : Sp := fun vs H Q _ => ∃ (j a : Addr) (ns : List Int), vs = [.ref j, .ref a] ∧ JugAt H j ∧ a ≠ j ∧ H a = some (.lst (ns.map V.int)) ∧ 0 < ns.length ∧ ns.length < 1000 ∧ ∀ (r : Int) (H' : Hp), r ∈ ns → SJ j H H' → Q (.int r) H'
section
variable {P : Program} {w : World} {K : PySem.W.Frag} {mg : Str → Option Value} {base : Heap}
theorem scTaken : FnScope ["_law_jug_here", "_law_items"] ["_law_jug_here", "_law_items"] (defScope sTaken) := ⟨rfl, rfl, rfl, by decide +kernel, rfl, by decide +kernel, by decide +kernel⟩
theorem ok_taken (S : Src K mg "_law_taken" sTaken ["_law_jug_here", "_law_items"]) (B : Bl mg) (C1 : Cal P w K mg base CX0 1 "_law_pour" ["_law_jug_here", "_law_total"] spPour) : Cal P w K mg base CX0 2 "_law_taken" ["_law_jug_here", "_law_items"] (spTaken2 K) := by
  refine cal_of S scTaken (fun vs H Q E h => ?_) (fun f cdv A outer s H vs Q E hr h => ?_)
  · obtain ⟨j, a, ns, rfl, _⟩ := h
    rfl
  · obtain ⟨j, a, ns, rfl, hj, hne, ha, h0, hl, q⟩ := h
    refine ⟨_, pss_one (ps_ret (pe_ix ix_list (pv 1) (pe_cal C1 hr pass0 (pa_cons (pv 0) (pa_cons (pe_callB call_len_seq (by rfl) B.len PySem.boot_len (pa_cons (pv 1) pa_nil)) pa_nil))) (fun _ _ => rfl))), ?_⟩
    refine ⟨_, rfl, _, rfl, _, rfl, a, _, rfl, .inl (SqL.of ha), j, _, rfl, hj, by rw [List.length_map]; omega, by rw [List.length_map]; omega, fun r H1 h1 h2 s1 => ?_⟩
    rw [List.length_map] at h2
    have hr1 : r.toNat < ns.length := by omega
    have ez : ((r.toNat : Nat) : Int) = r := by omega
    have hg : (ns.map V.int)[r.toNat]? = some (.int (ns[r.toNat])) := by
      rw [List.getElem?_map, List.getElem?_eq_getElem hr1]
      rfl
    have hat := atI_nat hg
    rw [ez] at hat
    exact ⟨a, _, _, _, rfl, rfl, SqL.of (s1.at_ _ _ hne ha), hat, q _ H1 (List.getElem_mem hr1) s1⟩
theorem scProd : FnScope ["_law_jug_here", "_law_letters", "_law_most", "_law_found", "_law_letter"] ["_law_jug_here", "_law_letters", "_law_most"] (defScope sProd) := ⟨rfl, rfl, rfl, by decide +kernel, rfl, by decide +kernel, by decide +kernel⟩
theorem ok_prod (S : Src K mg "_law_product" sProd ["_law_jug_here", "_law_letters", "_law_most"]) (B : Bl mg) (C1 : Cal P w K mg base CX0 1 "_law_pour" ["_law_jug_here", "_law_total"] spPour) : Cal P w K mg base CX0 2 "_law_product" ["_law_jug_here", "_law_letters", "_law_most"] (spProd K) := by
  refine cal_of S scProd (fun vs H Q E h => ?_) (fun f cdv A outer s H vs Q E hr h => ?_)
  · obtain ⟨j, n, k, rfl, _⟩ := h
    rfl
  · obtain ⟨j, n, k, rfl, hj, hn, hk1, hk3, q⟩ := h
    refine ⟨_, pss_cons (ps_set (i := 3) scProd.nd rfl (Or.inl rfl) (pe_lst pa_nil))
      (pss_cons (ps_for PassesOwn.never rfl (pi_range1 rfl B.range (pa_cons (pv 1) pa_nil)) (pg_name (i := 4) scProd.nd rfl (Or.inl rfl))
        (pss_one (ps_expr (pe_bm PySem.F.plainAttrs_list PySem.F.slot_list_append PySem.F.type_list_append mt_append (pv 3) (pa_cons (pe_ifExp (pt_cmpR op_eq (pe_cal C1 hr pass0 (pa_cons (pv 0) (pa_cons pe_int pa_nil))) pe_int (nomark _)) pe_int
          (pe_cal C1 hr pass0 (pa_cons (pv 0) (pa_cons (pe_op op_add (pv 2) pe_int) pa_nil)))) pa_nil)))))
      (pss_one (ps_ret (pe_tupleOf (by rfl) B.tuple (pv 3))))), ?_⟩
    refine ⟨by show 0 ≤ sizeLine; exact Nat.zero_le _, fun F hF => ?_⟩
    have hFj : F ≠ j := by
      obtain ⟨x, y, z, e⟩ := hj
      exact Ne.symm (ne_of_none e hF)
    have s0 : SJ j H (upd H F (.lst [])) := .of_same (same_upd hF) hj
    refine ⟨_, rfl, (n : Int), rfl, by omega, by omega, for_range (fun i σ H' => ∃ (v : Option V) (m : List Int), σ = [some (.ref j), some (.int (n : Int)), some (.int k), some (.ref F), v] ∧ SJ j H H' ∧ H' F = some (.lst (m.map V.int)) ∧ m.length = i ∧ ∀ y ∈ m, 0 ≤ y ∧ y ≤ 3)
      ⟨none, [], rfl, s0, upd_same, rfl, fun y hy => absurd hy (by simp)⟩ ?_ ?_⟩
    · rintro i σ H1 hi ⟨v, m, rfl, s1, hF1, hl, hm⟩
      have hi8 : i < 8 := by
        have : i < n := by simpa using hi
        omega
      have push : ∀ (z : Int) (H2 : Hp), SJ j H1 H2 → 0 ≤ z → z ≤ 3 → ∃ (v' : Option V) (m' : List Int), [some (V.ref j), some (V.int (n : Int)), some (V.int k), some (V.ref F), some (V.int (0 + (i : Int)))] = [some (V.ref j), some (V.int (n : Int)), some (V.int k), some (V.ref F), v'] ∧
          SJ j H (upd H2 F (.lst (m.map V.int ++ [.int z]))) ∧ (upd H2 F (.lst (m.map V.int ++ [.int z]))) F = some (.lst (m'.map V.int)) ∧ m'.length = i + 1 ∧ ∀ y ∈ m', 0 ≤ y ∧ y ≤ 3 := fun z H2 s2 h0 h3 => by
        have s12 := s1.trans s2
        refine ⟨_, m ++ [z], rfl, ⟨hj, ?_, fun b u n e => ?_⟩, ?_, by rw [List.length_append, hl, List.length_singleton], fun y hy => ?_⟩
        · obtain ⟨x, y, w', e⟩ := s12.jug'
          exact ⟨x, y, w', by rw [upd_ne (Ne.symm hFj)]; exact e⟩
        · rw [upd_ne (ne_of_none e hF)]
          exact s12.at_ b u n e
        · rw [upd_same, List.map_append]
          rfl
        · rcases List.mem_append.mp hy with hy | hy
          · exact hm y hy
          · rw [List.mem_singleton.mp hy]
            exact ⟨h0, h3⟩
      refine ⟨_, rfl, .inl ⟨rfl, _, SqL.of hF1⟩, _, rfl, j, 2, rfl, s1.jug', by decide, by decide, fun r H2 h1 h2 s2 => ⟨rfl, _, rfl, ?_⟩⟩
      have hlz : (m.map V.int).length < sizeLine := by
        rw [List.length_map, hl]
        exact Nat.lt_trans hi8 (by decide)
      refine ite2 (fun _ => ?_) (fun _ => ?_)
      · exact ⟨F, _, _, rfl, rfl, s2.at_ _ _ hFj hF1, hlz, push 0 H2 s2 (by decide) (by decide)⟩
      · refine ⟨_, rfl, _, rfl, _, _, rfl, rfl, j, k + 1, rfl, s2.jug', by omega, by omega, fun r2 H3 h3 h4 s3 => ?_⟩
        exact ⟨F, _, _, rfl, rfl, s3.at_ _ _ hFj (s2.at_ _ _ hFj hF1), hlz, push r2 H3 (s2.trans s3) h3 (by omega)⟩
    · rintro σ H1 ⟨v, m, rfl, s1, hF1, hl, hm⟩
      refine ⟨_, rfl, .inl ⟨F, _, rfl, SqL.of hF1, fun p hp => ?_⟩⟩
      have hl2 : m.length = n := by rw [hl]; simp
      exact q _ p m (s1.same (same_upd hp)) (s1.free hp) upd_same hl2 hm
end
end K14

set_option maxHeartbeats 4000000
/-! _law_least, _law_members -/
namespace K14
open PySem PySem.Spec PyProof.Rows L2
def spLeast (K : PySem.W.Frag) : Sp := fun vs H Q _ => ∃ (a : Addr) (L : List (Addr × List Int)) (d : Nat), vs = [.ref a] ∧ H a = some (.lst (refsOf L)) ∧ RowsAt H L ∧ 1 ≤ d ∧ d ≤ 8 ∧ L.length ≤ 24 ∧ (∀ x ∈ L, x.2.length = d ∧ ∀ y ∈ x.2, 0 ≤ y ∧ y ≤ 8) ∧
  ∀ (H' : Hp) (p : Addr) (L' : List (Addr × List Int)), Same H H' → H' p = some (.tup (refsOf L')) → RowsAt H' L' → Anti d (rowsOf L') → Q (.ref p) H'
abbrev ttLeast (K : PySem.W.Frag) : TT := tAnd (tTest (tOp (rNeD K) (tVar 4) (tVar 3))) (tB (tCall (spDiv K) [] E0 (tCons (tVar 4) (tCons (tVar 3) tNil))))
section
variable {P : Program} {w : World} {K : PySem.W.Frag} {mg : Str → Option Value} {base : Heap}
theorem scLeast : FnScope ["_law_products", "_law_once", "_law_found", "_law_product_here", "_law_other"] ["_law_products"] (defScope sLeast) := ⟨rfl, rfl, rfl, by decide +kernel, rfl, by decide +kernel, by decide +kernel⟩
theorem refs_append (A B : List (Addr × List Int)) : refsOf (A ++ B) = refsOf A ++ refsOf B := List.map_append
theorem len_le {α : Type} [DecidableEq α] : ∀ {l m : List α}, l.Nodup → (∀ x ∈ l, x ∈ m) → l.length ≤ m.length
  | [], m, _, _ => Nat.zero_le m.length
  | x :: l, m, h, s => by
    have ⟨h1, h2⟩ := List.nodup_cons.mp h
    have hx := s x List.mem_cons_self
    have ih := len_le (m := m.erase x) h2 fun y hy => (List.mem_erase_of_ne (fun e : y = x => h1 (by rw [← e]; exact hy))).mpr (s y (List.mem_cons_of_mem _ hy))
    rw [List.length_erase_of_mem hx] at ih
    have : 0 < m.length := List.length_pos_of_mem hx
    rw [List.length_cons]
    omega
theorem nodup_of_map {α β : Type} (f : α → β) {l : List α} (h : (l.map f).Nodup) : l.Nodup := List.Pairwise.of_map f (fun _ _ apart same => apart (congrArg f same)) h
/-- no other row divides this one -/
def lst1 (ms : List (List Int)) (m : List Int) : Bool := ms.all fun o => !(!decide (o = m) && dv o m)
theorem nodup_map_filter {α β : Type} (f : α → β) (c : α → Bool) {l : List α} (h : (l.map f).Nodup) : ((l.filter c).map f).Nodup :=
  List.Sublist.nodup (List.Sublist.map f List.filter_sublist) h
theorem ok_least (S : Src K mg "_law_least" sLeast ["_law_products"]) (B : Bl mg) (C1 : Cal P w K mg base CX0 1 "_law_divides" ["_law_one", "_law_other"] (spDiv K)) : Cal P w K mg base CX0 2 "_law_least" ["_law_products"] (spLeast K) := by
  refine cal_of S scLeast (fun vs H Q E h => ?_) (fun f cdv A outer s H vs Q E hr h => ?_)
  · obtain ⟨a, L, d, rfl, _⟩ := h
    rfl
  · obtain ⟨a, L, d, rfl, ha, hR, hd1, hd8, hl, hrow, q⟩ := h
    refine ⟨_, pss_cons (ps_set (i := 1) scLeast.nd rfl (Or.inl rfl) (pe_callB (cr_sortedT rfl) (by rfl) B.sorted (by decide +kernel) (pa_cons (pe_callTy (cr_setOfT rfl hr.units) (by rfl) B.set (by decide +kernel) (pa_cons (pv 0) pa_nil)) pa_nil)))
      (pss_cons (ps_set (i := 2) scLeast.nd rfl (Or.inl rfl) (pe_lst pa_nil))
      (pss_cons (ps_for PassesOwn.never rfl (pi_list (pv 1)) (pg_name (i := 3) scLeast.nd rfl (Or.inr rfl))
        (pss_one (ps_if (pt_cmpR (op_eqD hr.units) (pe_lc (own := [("_law_other", 4)]) (g := gName 4) (tt := ttLeast K) (te := tVar 4) rfl scLeast.nd (pi_list (pv 1))
            (blkOk_by (N := ["_law_products", "_law_once", "_law_found", "_law_product_here", "_law_other"]) (sc := defScope sLeast) (by decide +kernel))
            (fun _ _ _ _ _ => pg_name (i := 4) scLeast.nd rfl (Or.inl rfl))
            (fun _ _ _ _ _ => pts_one (by exact PW.pt (pw_and (pt_cmpR (op_neD hr.units) (pv 4) (pv 3) (nomark _)) (pw_and1 (pt_val (pe_cal C1 hr pass0 (pa_cons (pv 4) (pa_cons (pv 3) pa_nil))))))))
            (fun _ _ _ _ _ => by exact pv 4)) (pe_lst pa_nil) (nomark _))
          (pss_one (ps_expr (pe_bm PySem.F.plainAttrs_list PySem.F.slot_list_append PySem.F.type_list_append mt_append (pv 2) (pa_cons (pv 3) pa_nil)))) pss_nil)))
      (pss_one (ps_ret (pe_tupleOf (by rfl) B.tuple (pv 2)))))), ?_⟩
    refine ⟨_, rfl, a, L, rfl, SqL.of ha, fun x hx => SqT.of (hR x hx), by omega, fun S1 L1 hS1 hsub hall => ?_⟩
    have sS : Same H (upd H S1 (SetTO P w S1 L1)) := same_upd hS1
    have hR1 : RowsAt H L1 := fun x hx => hR x (hsub x hx)
    refine ⟨S1, L1, d, 9, rfl, upd_same, fun x hx => SqT.of (sS _ _ (hR1 x hx)), hd1, fun x hx => ⟨(hrow x (hsub x hx)).1, fun m hm => by have := (hrow x (hsub x hx)).2 m hm; omega⟩, fun L2 p2 hp12 hnd h64 _ hp2 => ?_⟩
    have sP : Same H (upd (upd H S1 (SetTO P w S1 L1)) p2 (.lst (refsOf L2))) := sS.trans (same_upd hp2)
    have row2 : ∀ x ∈ L2, x.2.length = d ∧ ∀ y ∈ x.2, 0 ≤ y ∧ y ≤ 8 := fun x hx => hrow x (hsub x (hp12.mem_iff.mp hx))
    have hR0 : RowsAt H L2 := fun x hx => hR1 x (hp12.mem_iff.mp hx)
    refine ⟨by show 0 ≤ sizeLine; exact Nat.zero_le _, fun F hF => ?_⟩
    have hF0 : H F = none := sP.free hF
    have hpF : p2 ≠ F := ne_of_none upd_same hF
    have s0 := sP.trans (same_upd (o := .lst []) hF)
    have hp2a := same_upd (o := .lst []) hF p2 _ upd_same
    refine ⟨_, rfl, p2, rfl, ⟨_, SqL.of hp2a⟩, for_list (xs := refsOf L2) (fun i σ H' => ∃ v, σ = [some (.ref a), some (.ref p2), some (.ref F), v, none] ∧ Same H H' ∧ H' p2 = some (.lst (refsOf L2)) ∧ H' F = some (.lst (refsOf ((L2.take i).filter fun x => lst1 (rowsOf L2) x.2))))
      ⟨none, rfl, s0, hp2a, upd_same⟩ (fun i σ H' _ ⟨_, _, s4, h2, _⟩ => SqL.of h2) ?_ ?_⟩
    · rintro i x σ H4 hx ⟨v, rfl, s4, hp4, hF4⟩
      obtain ⟨y, ey, rfl⟩ := refs_get hx
      have hy := List.mem_of_getElem? ey
      have hi : i < L2.length := (List.getElem?_eq_some_iff.mp ey).1
      have hR4 := hR0.same s4
      refine ⟨_, rfl, p2, rfl, ⟨_, SqL.of hp4⟩, fun D hD => lc_it (walk_list (xs := refsOf L2)) (PvR K H4 D fun j => ((rowsOf L2).take j).filter fun o => !decide (o = y.2) && dv o y.2) (pvr_zero hD rfl) (fun j H' _ p => SqL.of (p.1 _ _ hp4)) ?_ ?_⟩
      · rintro j z H5 H6 hj p ⟨rfl, hz⟩
        obtain ⟨u, eu, rfl⟩ := refs_get hz
        have hu := List.mem_of_getElem? eu
        have hj2 : j < L2.length := (List.getElem?_eq_some_iff.mp eu).1
        have hR5 := hR4.same p.1
        have er : (rowsOf L2)[j]? = some u.2 := by rw [List.getElem?_map, eu] <;> rfl
        have hFl : (((rowsOf L2).take j).filter fun o => !decide (o = y.2) && dv o y.2).length < sizeLine := by
          have h4 := List.length_filter_le (fun o => !decide (o = y.2) && dv o y.2) ((rowsOf L2).take j)
          rw [List.length_take] at h4
          exact Nat.lt_of_le_of_lt (show _ ≤ 64 by omega) (by decide)
        refine ⟨rfl, _, rfl, _, rfl, _, _, dp_tup (SqT.of (hR5 u hu)), dp_tup (SqT.of (hR5 y hy)), shaped_tup _, shaped_tup _, _, rfl, ?_⟩
        rw [eqv_tup]
        refine ite2 (fun c => ?_) (fun c => ?_)
        · refine ⟨_, rfl, _, rfl, u.1, y.1, u.2, y.2, rfl, SqT.of (hR5 u hu), SqT.of (hR5 y hy), by rw [(row2 u hu).1]; omega, fun H7 s7 => ⟨_, rfl, ?_⟩⟩
          refine ite2 (fun c2 => ?_) (fun c2 => ?_)
          · refine ⟨_, rfl, ?_⟩
            refine pvr_push (m := u.2) hD p s7 (SqT.of (s7 _ _ (hR5 u hu))) ?_ hFl
            rw [filter_take _ er, if_pos (by rw [c, c2]; rfl)]
          · refine pvr_skip p s7 ?_
            rw [filter_take _ er, if_neg (by rw [c, Bool.true_and]; exact c2), List.append_nil]
        · have c' : (!decide (u.2 = y.2)) = false := by
            cases e : (!decide (u.2 = y.2)) with
            | false => rfl
            | true => exact absurd e c
          refine pvr_skip p (Same.refl _) ?_
          rw [filter_take _ er, if_neg (by rw [c', Bool.false_and]; exact Bool.false_ne_true), List.append_nil]
      · intro H5 v2
        obtain ⟨s5, bs, h1, h2⟩ := v2
        have el : (refsOf L2).length = (rowsOf L2).length := by rw [List.length_map, List.length_map]
        have h6 : Rows K H5 bs ((rowsOf L2).filter fun o => !decide (o = y.2) && dv o y.2) := by
          have h7 : Rows K H5 bs (((rowsOf L2).take (refsOf L2).length).filter fun o => !decide (o = y.2) && dv o y.2) := h2
          rw [el, List.take_length] at h7
          exact h7
        refine ⟨by show 0 ≤ sizeLine; exact Nat.zero_le _, fun e he => ?_⟩
        have s6 : Same H5 (upd H5 e (.lst [])) := same_upd he
        refine ⟨_, _, .lst (SqL.of (s6 _ _ h1)) (dp_rows (h6.same s6)), dp_lst (ns := []) (SqL.of upd_same), shaped_rows _, shaped_ints _, _, rfl, ?_⟩
        rw [eqv_rows_nil]
        have hF6 := s6 _ _ (s5 _ _ hF4)
        have hp6 := s6 _ _ (s5 _ _ hp4)
        have s46 : Same H (upd H5 e (.lst [])) := (s4.trans s5).trans s6
        have econd : ((rowsOf L2).filter fun o => !decide (o = y.2) && dv o y.2).isEmpty = lst1 (rowsOf L2) y.2 := by
          unfold lst1
          rw [Bool.eq_iff_iff, List.isEmpty_iff, List.filter_eq_nil_iff, List.all_eq_true]
          constructor
          · intro h o ho
            have h3 := h o ho
            cases e : (!decide (o = y.2) && dv o y.2) with
            | false => rfl
            | true => exact absurd e h3
          · intro h o ho h3
            have h4 := h o ho
            rw [h3] at h4
            cases h4
        rw [econd]
        have step : (L2.take (i + 1)).filter (fun x => lst1 (rowsOf L2) x.2) = (L2.take i).filter (fun x => lst1 (rowsOf L2) x.2) ++ (if lst1 (rowsOf L2) y.2 = true then [y] else []) := filter_take (fun x : Addr × List Int => lst1 (rowsOf L2) x.2) ey
        refine ite2 (fun c => ?_) (fun c => ?_)
        · refine ⟨_, rfl, .inl ⟨rfl, _, SqL.of hF6⟩, _, rfl, F, _, _, rfl, rfl, hF6, ?_, some (.ref y.1), rfl, fun b u e' => ?_, ?_, ?_⟩
          · rw [List.length_map]
            have h4 := List.length_filter_le (fun x : Addr × List Int => lst1 (rowsOf L2) x.2) (L2.take i)
            rw [List.length_take] at h4
            exact Nat.lt_of_le_of_lt (show _ ≤ 64 by omega) (by decide)
          · rw [upd_ne (ne_of_none e' hF0)]
            exact s46 _ _ e'
          · rw [upd_ne hpF]
            exact hp6
          · rw [upd_same, step, if_pos c, refs_append]
            rfl
        · refine ⟨some (.ref y.1), rfl, s46, hp6, ?_⟩
          rw [step, if_neg c, List.append_nil]
          exact hF6
    · rintro σ H4 ⟨v, rfl, s4, hp4, hF4⟩
      have el : (refsOf L2).length = L2.length := List.length_map _
      rw [el, List.take_length] at hF4
      have hR4 := hR0.same s4
      refine ⟨_, rfl, .inl ⟨F, _, rfl, SqL.of hF4, fun p hp => ?_⟩⟩
      have s5 : Same H4 (upd H4 p (.tup (refsOf (L2.filter fun x => lst1 (rowsOf L2) x.2)))) := same_upd hp
      refine q _ p _ (s4.trans s5) upd_same (fun x hx => s5 _ _ (hR4 x (List.mem_filter.mp hx).1)) ⟨hd1, hd8, fun m hm => ?_, nodup_map_filter _ _ hnd, fun x hx y hy hne => ?_, ?_⟩
      · obtain ⟨x, hx, rfl⟩ := List.mem_map.mp hm
        exact row2 x (List.mem_filter.mp hx).1
      · obtain ⟨x', hx', rfl⟩ := List.mem_map.mp hx
        obtain ⟨y', hy', rfl⟩ := List.mem_map.mp hy
        obtain ⟨hx1, hx2⟩ := List.mem_filter.mp hx'
        obtain ⟨hy1, hy2⟩ := List.mem_filter.mp hy'
        have h3 := List.all_eq_true.mp hy2 x'.2 (List.mem_map.mpr ⟨x', hx1, rfl⟩)
        rw [decide_eq_false hne] at h3
        simpa using h3
      · rw [List.length_map]
        have h4 := List.length_filter_le (fun x : Addr × List Int => lst1 (rowsOf L2) x.2) L2
        have h5 := len_le (nodup_of_map _ hnd) fun x hx => hsub x (hp12.mem_iff.mp hx)
        omega
end
end K14

set_option maxHeartbeats 4000000
/-! _law_members -/
namespace K14
open PySem PySem.Spec PyProof.Rows L2
def spMem (K : PySem.W.Frag) : Sp := fun vs H Q _ => ∃ (j : Addr) (n : Nat) (k : Int), vs = [.ref j, .int n, .int 7, .int k] ∧ JugAt H j ∧ 1 ≤ n ∧ n ≤ 8 ∧ 1 ≤ k ∧ k ≤ 3 ∧
  ∀ (H' : Hp) (p : Addr) (L' : List (Addr × List Int)), SJ j H H' → H' p = some (.tup (refsOf L')) → RowsAt H' L' → Anti n (rowsOf L') → Q (.ref p) H'
theorem RowsAt.sj {j : Addr} {H H' : Hp} {L : List (Addr × List Int)} (s : SJ j H H') (h : RowsAt H L) : RowsAt H' L := fun x hx => s.keep (h x hx) fun _ z => nomatch z
def PvM (j : Addr) (n : Nat) (H1 : Hp) (D : Addr) (i : Nat) (H : Hp) : Prop := ∃ L : List (Addr × List Int), SJ j H1 H ∧ H D = some (.lst (refsOf L)) ∧ RowsAt H L ∧ L.length = i ∧ ∀ x ∈ L, x.2.length = n ∧ ∀ y ∈ x.2, 0 ≤ y ∧ y ≤ 3
section
variable {P : Program} {w : World} {K : PySem.W.Frag} {mg : Str → Option Value} {base : Heap}
theorem scMem : FnScope ["_law_jug_here", "_law_letters", "_law_total", "_law_most", "_law_turn"] ["_law_jug_here", "_law_letters", "_law_total", "_law_most"] (defScope sMem) := ⟨rfl, rfl, rfl, by decide +kernel, rfl, by decide +kernel, by decide +kernel⟩
abbrev teMem (K : PySem.W.Frag) : TE := tCall (spProd K) [] E0 (tCons (tVar 0) (tCons (tVar 1) (tCons (tVar 3) tNil)))
theorem ok_mem (S : Src K mg "_law_members" sMem ["_law_jug_here", "_law_letters", "_law_total", "_law_most"]) (B : Bl mg) (C1 : Cal P w K mg base CX0 1 "_law_pour" ["_law_jug_here", "_law_total"] spPour)
    (C2 : Cal P w K mg base CX0 2 "_law_product" ["_law_jug_here", "_law_letters", "_law_most"] (spProd K)) (C3 : Cal P w K mg base CX0 2 "_law_least" ["_law_products"] (spLeast K)) :
    Cal P w K mg base CX0 3 "_law_members" ["_law_jug_here", "_law_letters", "_law_total", "_law_most"] (spMem K) := by
  refine cal_of S scMem (fun vs H Q E h => ?_) (fun f cdv A outer s H vs Q E hr h => ?_)
  · obtain ⟨j, n, k, rfl, _⟩ := h
    rfl
  · obtain ⟨j, n, k, rfl, hj, hn1, hn8, hk1, hk3, q⟩ := h
    refine ⟨_, pss_one (ps_ret (pe_cal C3 hr pass0 (pa_cons (pe_lc (own := [("_law_turn", 4)]) (g := gName 4) (te := teMem K) rfl scMem.nd (pi_range1 rfl B.range (pa_cons (pe_cal C1 (hr.mono (by decide)) pass0 (pa_cons (pv 0) (pa_cons (pe_op op_add (pv 2) pe_int) pa_nil))) pa_nil))
      (blkOk_by (N := ["_law_jug_here", "_law_letters", "_law_total", "_law_most", "_law_turn"]) (sc := defScope sMem) (by decide +kernel))
      (fun _ _ _ _ _ => pg_name (i := 4) scMem.nd rfl (Or.inl rfl)) (fun _ _ _ _ _ => pts_nil)
      (fun _ _ _ _ _ => by exact pe_cal C2 hr pass0 (pa_cons (pv 0) (pa_cons (pv 1) (pa_cons (pv 3) pa_nil))))) pa_nil))), ?_⟩
    refine ⟨_, rfl, _, rfl, _, _, rfl, rfl, j, 8, rfl, hj, by decide, by decide, fun r H1 h0 h8 s1 => ⟨r, rfl, by omega, by omega, fun D hD => lc_it walk_range (PvM j n H1 D) ?_ (fun _ _ _ _ => trivial) ?_ ?_⟩⟩
    · exact ⟨[], .of_same (same_upd hD) s1.jug', upd_same, fun x hx => absurd hx (by simp), rfl, fun x hx => absurd hx (by simp)⟩
    · rintro i x H2 _ hi ⟨L, s2, hD2, hR2, hl, hrow⟩ ⟨rfl, rfl⟩
      have hDj : D ≠ j := by
        obtain ⟨x, y, z, e⟩ := s2.jug
        exact Ne.symm (ne_of_none e hD)
      refine ⟨rfl, _, rfl, _, rfl, _, rfl, j, n, k, rfl, s2.jug', hn8, hk1, hk3, fun H3 p m s3 hp0 hp hml hm => ?_⟩
      have s23 := s2.trans s3
      refine ⟨_, s3.at_ _ _ hDj hD2, ?_, L ++ [(p, m)], ⟨s23.jug, ?_, fun b u nb e => ?_⟩, ?_, fun x hx => ?_, by rw [List.length_append, hl]; rfl, fun x hx => ?_⟩
      · rw [List.length_map, hl]
        exact Nat.lt_of_lt_of_le (show i < 8 by omega) (by decide)
      · obtain ⟨x, y, z, e⟩ := s23.jug'
        exact ⟨x, y, z, by rw [upd_ne (Ne.symm hDj)]; exact e⟩
      · rw [upd_ne (ne_of_none e hD)]
        exact s23.at_ b u nb e
      · rw [upd_same, refs_append]
        rfl
      · have hne : ∀ b, H3 b = some (.tup (x.2.map V.int)) → b ≠ D := fun b e z => by
          rw [z, s3.at_ _ _ hDj hD2] at e
          cases e
        rcases List.mem_append.mp hx with old | last
        · have e := (hR2.sj s3) x old
          rw [upd_ne (hne _ e)]
          exact e
        · rw [List.mem_singleton.mp last] at hne ⊢
          rw [upd_ne (hne _ hp)]
          exact hp
      · rcases List.mem_append.mp hx with old | last
        · exact hrow x old
        · rw [List.mem_singleton.mp last]
          exact ⟨hml, hm⟩
    · rintro H2 ⟨L, s2, hD2, hR2, hl, hrow⟩
      refine ⟨D, L, n, rfl, hD2, hR2, hn1, hn8, by omega, fun x hx => ⟨(hrow x hx).1, fun y hy => by have := (hrow x hx).2 y hy; omega⟩, fun H3 p L' s3 hp hR3 hA => ?_⟩
      exact q H3 p L' ((s1.trans s2).same s3) hp hR3 hA
end
end K14

set_option maxHeartbeats 4000000
/-! Refused(reason): made (its __init__ says super().__init__(..), then stores) -/
namespace K14
open PySem PySem.Spec PyProof.Rows L2
open PySem.W (ksFn ksEnv ks_superIn kxs_mw excObj excTup)
abbrev arTail : List Value := [.type "ArithmeticError", .type "Exception", .type "BaseException", .type "object"]
abbrev sRI : Stmt := inClass (top 8) 0
/-- the class at C has this under a name -/
abbrev Has (K : PySem.W.Frag) (C : Addr) (x : Str) (v : Option Value) : Prop := PySem.W.findIn K (.ref C) x = some v
abbrev Below (K : PySem.W.Frag) (C : Addr) (b : String) : Prop := PySem.W.subIn K (.ref C) (.type b) = some true
structure RefTxt (prog : Program) (K : PySem.W.Frag) (mg : Str → Option Value) (C : Addr) : Prop where
  gC : mg "Refused" = some (.ref C)
  own : PySem.W.keepIn K (.ref C) = true ∧ PySem.W.hasDictIn K C = true ∧ PySem.W.typeIn K (.ref C) = some (.type "type")
  xi : PySem.W.excInitIn K C arTail "ArithmeticError.__new__" = true
  cd : ∃ cd, PySem.W.clsIn K C = some cd ∧ cd.mro = .ref C :: arTail ∧ cd.hasDict = true
  sa : Has K C "__setattr__" (some (.builtin "object.__setattr__"))
  ga : Has K C "__getattribute__" (some (.builtin "BaseException.__getattribute__"))
  gg : Has K C "__getattr__" none
  noN : Has K C "reason" none
  exC : Below K C "BaseException"
  hB : Below K C "ArithmeticError"
  te : PySem.W.exmOne K (.ref C) (.ref C) = some true
  ho : PySem.W.nsIn K cStatics "thirdparty.any" = some none
  sup : mg "super" = none
  hm : ks_superIn K C C "__init__" = some (some (.builtin "ArithmeticError.__init__"))
  htop : (prog.main.scope.names.lookup ("super" : Str)).isSome = false
  fn : ∃ (fI : Addr) (oc : Value) (od : Option Addr) (doc pm : Value) (an : Option Addr) (cda : Addr) (ct : Value) (osl : Array (Option Value)) (cc : Addr) (cl : Value) (cld : Option Addr) (csl : Array (Option Value)) (ccl : Value) (cdd : Option Addr) (vs : Array Value) (ccs : Array (Option Value)) (file : Str) (tf : Tok),
    PySem.W.findIn K (.ref C) "__init__" = some (some (.ref fI)) ∧ PySem.W.isFn K (.ref fI) = true ∧
    K.lookup fI = some ⟨oc, od, .func (ksFn "__init__" "Refused.__init__" (defArgs sRI) (defBody sRI) (defScope sRI) .none .none doc pm an (.ref cda) ct cc), osl⟩ ∧ PySem.W.codeIn K (.ref cda) "Refused.__init__" = true ∧
    K.lookup cc = some ⟨cl, cld, .cell (some (.ref C)), csl⟩ ∧ K.lookup cda = some ⟨ccl, cdd, .fields vs, ccs⟩ ∧ vs[2]? = some (.str file tf) ∧ ((prog.main.file : Str) == file) = true
theorem RefTxt.kC {prog : Program} {K : PySem.W.Frag} {mg : Str → Option Value} {C : Addr} (T : RefTxt prog K mg C) : PySem.W.keepIn K (.ref C) = true := T.own.1
theorem RefTxt.hdC {prog : Program} {K : PySem.W.Frag} {mg : Str → Option Value} {C : Addr} (T : RefTxt prog K mg C) : PySem.W.hasDictIn K C = true := T.own.2.1
theorem RefTxt.tyC {prog : Program} {K : PySem.W.Frag} {mg : Str → Option Value} {C : Addr} (T : RefTxt prog K mg C) : PySem.W.typeIn K (.ref C) = some (.type "type") := T.own.2.2
section
variable {prog : Program} {w : World} {A : Around} {E : Value → Shared → Prop} {s : Shared} {K : PySem.W.Frag} {C : Addr}
/-- the bound __init__ of the base, called on a fresh exception: its args are laid anew -/
theorem ref_bw {u e t0 : Addr} {rest : List Value} {Q : Value → Shared → Prop} (X : K.In s.heap) (xi : PySem.W.excInitIn K C arTail "ArithmeticError.__new__" = true) (he : s.heap.get? e = some (excObj C t0 none .none)) (hu : s.heap.get? u = some (kxs_mw "ArithmeticError.__init__" e)) (few : rest.length ≤ sizeLine)
    (hq : ∀ h' t1, (∀ b o, b ≠ e → s.heap.get? b = some o → h'.get? b = some o) → h'.get? e = some (excObj C t1 none .none) → Q .none { s with heap := h' }) : wpAny (model prog w) A (call (.ref u) rest) Q E s := by
  obtain ⟨_, _, _, _, _, _, _, _, _, _, _, _, _, _, _, _, isC, _⟩ := PySem.W.excInit_of X xi
  have facts := F.excBase_ArithmeticError
  have wrapper : (Value.type "method-wrapper" == Value.type "method" || Value.type "method-wrapper" == Value.type "builtin_function_or_method" || Value.type "method-wrapper" == Value.type "method-wrapper") = true ∧
      (Value.type "method-wrapper" != Value.type "method") = true := by decide
  refine wpAny_call (codeAny_of_tree (show wpAny _ A.in1 (callAny (.ref u) ⟨rest, []⟩) _ _ _ from ?_))
  unfold callAny
  refine wpAny_bind (wpAny_load (o := kxs_mw "ArithmeticError.__init__" e) hu (wpAny_ite_split (fun _ => wpAny_ite_split (fun _ => ?_) fun z => absurd wrapper.2 z) fun z => absurd wrapper.1 z))
  have done : codeAny (model prog w) A (.builtin "ArithmeticError.__init__" ⟨.ref e :: rest, []⟩) (fun r s' => match r with | .ok (.ret v) => Q v s' | .ok _ => False | .error x => E x s') s :=
    codeAny_builtin facts.initEntry (PySem.W.exc_init_tree (cls := .ref C) (t0 := t0) (dv := none) (c2 := .none) (c3 := .none) (b4 := .bool false) he few fun h' keep laid _ => hq h' _ keep laid)
  exact wpAny_bind (PySem.W.check_bound_init facts.toExcCallFacts isC he rfl (wpAny_pure ⟨plainId_quiet facts.init.plain _, done⟩))
end
/-! self.name = v on a fresh exception under ArithmeticError: KE.KExcInit's store, then the dict that is made for it -/
section
variable {prog : Program} {w : World} {A : Around} {R : Result → Shared → Prop} {s : Shared} {K : PySem.W.Frag} {C : Addr}
theorem over_ar {cd : ClassData} (hcd : PySem.W.clsIn K C = some cd) (hm : cd.mro = .ref C :: arTail) : PySem.W.excOver K C arTail = true := by
  have all : PySem.W.excTail arTail arTail = true := by decide +kernel
  unfold PySem.W.excOver
  rw [hcd]
  show (match cd.mro with | .ref C' :: bm => C' == C && PySem.W.excTail arTail bm | _ => false) = true
  rw [hm]
  show (C == C && PySem.W.excTail arTail arTail) = true
  rw [all, beq_self_eq_true] <;> rfl
theorem own_store {name : Str} {tk : Tok} {v : Value} {x t0 : Addr} {cd : ClassData} (X : K.In s.heap) (hx : s.heap.get? x = some (excObj C t0 none .none)) (hcd : PySem.W.clsIn K C = some cd) (hm : cd.mro = .ref C :: arTail) (hh : cd.hasDict = true) (ha : PySem.W.findIn K (.ref C) name = some none)
    (q : ∀ h' k dx, (∀ b o, b ≠ x → s.heap.get? b = some o → h'.get? b = some o) → s.heap.objs.size ≤ dx → dx ≠ x → h'.get? x = some (excObj C t0 (some dx) .none) → h'.Ns1 dx (fun y => if y = name then some v else none) → R (.ok (.ret .none)) { s with heap := h', toks := k }) :
    codeAny (model prog w) A (.call (.builtin "object.__setattr__") { pos := [.ref x, .str name tk, v] }) R s := by
  have noTaker : PySem.W.takerIn K C name = some none := by
    unfold PySem.W.takerIn
    rw [ha] <;> rfl
  have low : x < s.heap.objs.size := Heap.lt_size hx
  refine PySem.W.osa_openX (od := none) F.store_ArithmeticError X ⟨hx, rfl, rfl, trivial⟩ (over_ar hcd hm) noTaker fun b => ?_
  refine wpAny_bind (wpAny_pure (wpAny_bind (PySem.W.instanceDict_exc hx (PySem.W.looks_clsIn X hcd) hh ?_)))
  obtain ⟨N, hN⟩ : ∃ N, N = s.heap.objs.size := ⟨_, rfl⟩
  obtain ⟨h1, e1⟩ : ∃ h1, h1 = s.heap.push (PySem.W.dictOf [] 0) := ⟨_, rfl⟩
  have old1 : ∀ b o, s.heap.get? b = some o → h1.get? b = some o := fun b o z => e1 ▸ Heap.get?_push_of_some _ z
  have new1 : h1.get? N = some (PySem.W.dictOf [] 0) := by
    rw [e1, hN, Heap.get?_push_size _ rfl]
  have xN : x ≠ N := hN ▸ Nat.ne_of_lt low
  rw [← e1, ← hN]
  have given : (h1.update x fun o => { o with dict := some N }).get? x = some (excObj C t0 (some N) .none) := Heap.get?_update_self _ (old1 _ _ hx) rfl
  have others : ∀ b, b ≠ x → (h1.update x fun o => { o with dict := some N }).get? b = h1.get? b := fun b hb => Heap.get?_update_ne _ _ _ _ hb
  refine HandSPX.store_in_new ⟨_, #[], 0, (others N xN.symm).trans new1, rfl, nofun, fun _ => rfl⟩ fun h' k told same => ?_
  refine q h' k N (fun b o hb z => ?_) (Nat.le_of_eq hN.symm) xN.symm ((same.2 x xN).trans given) told
  have bN : b ≠ N := hN ▸ Nat.ne_of_lt (Heap.lt_size z)
  exact (same.2 b bN).trans ((others b hb).trans (old1 b o z))
end
end K14

set_option maxHeartbeats 4000000
/-! Refused(reason): __init__, the call -/
namespace K14
open PySem PySem.Spec PyProof.Rows L2
open PySem.W (ksFn ksEnv ks_superIn kxs_mw excObj excTup)
/-- what __init__ leaves of a fresh exception at x -/
structure RInit (h h' : Heap) (x C dx t1 : Addr) (v : Value) : Prop where
  keep : ∀ b o, b ≠ x → h.get? b = some o → h'.get? b = some o
  obj : h'.get? x = some { cls := .ref C, dict := some dx, data := .fields #[.ref t1, .none, .none, .none, .bool false, .none] }
  dbig : h.objs.size ≤ dx
  dne : dx ≠ x
  ns : h'.Ns1 dx (fun y => if y = "reason" then some v else none)
section
variable {prog : Program} {w : World} {A : Around} {R : Result → Shared → Prop} {K : PySem.W.Frag} {mg mb : Str → Option Value} {C fI cda cc : Addr} {oc doc pm ct cl ccl : Value} {od an cld cdd : Option Addr} {osl csl ccs : Array (Option Value)} {vs : Array Value} {file : Str} {tf : Tok}
theorem ref_init (T : RefTxt prog K mg C) (lF : K.lookup fI = some ⟨oc, od, .func (ksFn "__init__" "Refused.__init__" (defArgs sRI) (defBody sRI) (defScope sRI) .none .none doc pm an (.ref cda) ct cc), osl⟩) (hcd : PySem.W.codeIn K (.ref cda) "Refused.__init__" = true)
    (lC : K.lookup cc = some ⟨cl, cld, .cell (some (.ref C)), csl⟩) (lD : K.lookup cda = some ⟨ccl, cdd, .fields vs, ccs⟩) (hvs : vs[2]? = some (.str file tf)) (hfile : ((prog.main.file : Str) == file) = true)
    {s : Shared} {x t0 : Addr} {v : Value} (X : K.In s.heap) (hx0 : K.lookup x = none) (G : s.heap.Ns mainGlobals mg) (Bn : s.heap.Ns builtinsNs mb) (hbb : ∀ x : Str, x ≠ "__name__" → mb x = bootBuiltins x) (hlim : s.heap.NoLimit)
    (hx : s.heap.get? x = some (excObj C t0 none .none)) (hroom : A.depth < recursionLimit) (hq : ∀ h' tk dx t1, RInit s.heap h' x C dx t1 v → R (.ok (.ret .none)) { s with heap := h', toks := tk }) :
    codeAny (model prog w) A (.call (.ref fI) ⟨[.ref x, v], []⟩) R s := by
  obtain ⟨cd, hcl, hmro, hhd⟩ := T.cd
  refine ks_codeAny_call_defAt (fd := ksFn "__init__" "Refused.__init__" (defArgs sRI) (defBody sRI) (defScope sRI) .none .none doc pm an (.ref cda) ct cc) (body := defBody sRI) (binds := [("self", .ref x), ("reason", v)]) hroom (X _ _ lF) rfl hlim (PySem.W.codeRec_of X hcd) rfl
    (BindsTo.of_eq (by first | rfl | with_unfolding_all rfl)) (show ∀ y ∈ (defScope sRI).names, y.2 ≠ NameKind.cell by decide +kernel) (fun y hy => ?_) (fun h₁ hns hk₁ => ?_) rfl rfl rfl
  · rcases List.mem_cons.mp hy with z | hy
    · rw [z]; rfl
    · rw [List.mem_singleton.mp hy]; rfl
  rcases s with ⟨hp, g, d, tk, os⟩
  have X₁ : K.In h₁ := X.keeps hk₁
  have hx₁ := hk₁ _ _ hx
  have hsc : (defScope sRI).kind = .function := rfl
  refine ks_wpAt_execs_cons (ks_wpAt_Expr_any (ks_wpAt_MethodCall (ks_wpAt_super_base (env := ksEnv "Refused.__init__" (defScope sRI) hp.objs.size fI (.ref cda) cc) (by rfl) (by rfl) (by decide) rfl (X₁ _ _ lF) rfl rfl rfl (X₁ _ _ lD) rfl hvs hfile T.htop ?_)))
  have hm1 : PySem.W.mroIn K C (.ref C) = some true := by
    unfold PySem.W.mroIn
    rw [hcl, Option.bind_some, hmro, if_neg (show ¬ (List.isEmpty (Value.ref C :: arTail) = true) from Bool.false_ne_true)]
    have e : (Value.ref C :: arTail).contains (.ref C) = true := by simp
    rw [e]
  obtain ⟨oD, hD1, hD2⟩ : ∃ oD, h₁.get? C = some oD ∧ oD.data = .cls cd := by
    unfold PySem.W.clsIn at hcl
    split at hcl
    · rename_i c d cd' sl ho
      cases hcl
      exact ⟨_, X₁ _ _ ho, rfl⟩
    · cases hcl
  have I₁ : PySem.W.InstAt h₁ x (excObj C t0 none .none) C none := ⟨hx₁, rfl, rfl, trivial⟩
  have hxC : x ≠ C := PySem.W.ks_ne X₁ I₁ hcl
  have hv1 : ([(("self" : Str), Value.ref x), (("reason" : Str), v)].reverse.lookup ("self" : Str)) = some (.ref x) := by first | rfl | with_unfolding_all rfl
  refine PySem.W.ks_loadName_global hsc (by rfl) (PySem.Calls.loadGlobal_builtin (env := ksEnv "Refused.__init__" (defScope sRI) hp.objs.size fI (.ref cda) cc) (G.keeps hk₁) T.sup (Bn.keeps hk₁) ((hbb _ (by decide)).trans (by decide +kernel)) ⟨rfl, ?_⟩)
  refine wpAny_loadName_free hsc (by rfl) rfl ⟨_, X₁ _ _ lC, rfl⟩ ?_
  refine wpAny_loadName_local (name := "self") hsc (by rfl) hns hv1 ?_
  refine ks_wpAny_isType_cls hD1 hD2 (And.intro rfl ?_)
  refine ks_wpAny_call_super hD1 hD2 hx₁ rfl (fun c e => (nomatch e)) (PySem.W.looks_mroIn X₁ hm1) (fun h2 e2 k2 => ?_)
  have X₂ : K.In h2 := X₁.keeps k2
  have hx₂ := k2 _ _ hx₁
  have I₂ : PySem.W.InstAt h2 x (excObj C t0 none .none) C none := ⟨hx₂, rfl, rfl, trivial⟩
  have hm2 := T.hm
  unfold ks_superIn at hm2
  rw [hcl] at hm2
  refine PySem.W.kxs_getMethod PySem.W.kxs_ArithmeticError e2 (PySem.W.looks_opaque X₂ T.ho) (l₀ := cd.mro) ?_ rfl X₂ hm2 (I₂.type.andThen (PySem.W.looks_subIn X₂ T.hB)) hxC (by decide) ?_
  · exact fun A Q E s k q => wpAny_bind ((PySem.W.looks_clsIn X₂ hcl) A _ E s k (wpAny_pure q))
  have hu3 : (h2.push (kxs_mw "ArithmeticError.__init__" x)).get? h2.objs.size = some (kxs_mw "ArithmeticError.__init__" x) := Heap.get?_push_at rfl rfl
  have X₃ : K.In (h2.push (kxs_mw "ArithmeticError.__init__" x)) := X₂.keeps fun b o e => Heap.get?_push_of_some _ e
  have hx₃ : (h2.push (kxs_mw "ArithmeticError.__init__" x)).get? x = some (excObj C t0 none .none) := Heap.get?_push_of_some _ hx₂
  refine PySem.W.kxs_callWith (i := "ArithmeticError.__init__") (x := x) (by rfl) (Calls.evalArgs_plain ?_)
  refine Calls.spliced_cons (Calls.Constant_str (k := 0) (pos := ⟨0, 0, 0, 0⟩) (Calls.spliced_nil ⟨hu3, ?_⟩))
  refine ref_bw (s := ⟨_, g, d, _, os⟩) X₃ T.xi hx₃ hu3 (by show 1 ≤ sizeLine; decide) fun h4 t1 k4 hx₄ => ?_
  have k14 : ∀ b o, b ≠ x → h₁.get? b = some o → h4.get? b = some o := fun b o hb e => k4 b o hb (Heap.get?_push_of_some _ (k2 b o e))
  have k04 : ∀ b o, b ≠ x → hp.get? b = some o → h4.get? b = some o := fun b o hb e => k14 b o hb (hk₁ b o e)
  have X₄ : K.In h4 := fun b o e => k04 b o (fun z => by rw [z, hx0] at e; cases e) (X b o e)
  have hLx : hp.objs.size ≠ x := Nat.ne_of_gt (Heap.lt_size hx)
  have hns4 : h4.Ns hp.objs.size (fun y => [(("self" : Str), Value.ref x), (("reason" : Str), v)].reverse.lookup y) := hns.at' fun o e => k14 _ o hLx e
  have hv2 : ([(("self" : Str), Value.ref x), (("reason" : Str), v)].reverse.lookup ("reason" : Str)) = some v := by first | rfl | with_unfolding_all rfl
  -- self.reason = reason
  refine ks_wpAt_execs_cons (wpAt_of_wpAny (plainObj_wpAny_Assign_Attribute ?_))
  refine wpAny_Name (wpAny_loadName_local hsc (by rfl) hns4 hv2 ?_) (by decide)
  refine wpAny_Name (wpAny_loadName_local hsc (by rfl) hns4 hv1 ?_) (by decide)
  refine PySem.W.set_plain X₄ (ox := excObj C t1 none .none) (od := none) ⟨hx₄, rfl, rfl, trivial⟩ T.sa ?_
  refine own_store (s := ⟨h4, g, d, _, os⟩) X₄ hx₄ hcl hmro hhd T.noN (fun h5 tk5 dx k5 dn dne hx₅ hn₅ => ?_)
  refine wpAt_of_wpAny (wpAny_execs_nil ?_)
  have z : hp.objs.size < h4.objs.size := hns4.lt
  exact hq h5 tk5 dx t1 ⟨fun b o hb e => k5 b o hb (k04 b o hb e), hx₅, Nat.le_of_lt (Nat.lt_of_lt_of_le z dn), dne, hn₅⟩
end
end K14

set_option maxHeartbeats 4000000
/-! Refused(reason): made, raised, its field read -/
namespace K14
open PySem PySem.Spec PyProof.Rows L2
open PySem.W (ksFn ksEnv ks_superIn kxs_mw excObj excTup)
/-- a made Refused -/
structure RMade (h h' : Heap) (e C d : Addr) (v : Value) : Prop where
  keep : ∀ b o, h.get? b = some o → h'.get? b = some o
  new : h.objs.size ≤ e
  obj : ∃ oe vs, h'.get? e = some oe ∧ oe.cls = .ref C ∧ oe.dict = some d ∧ oe.data = .fields vs ∧ vs[1]? = some .none
  dbig : h.objs.size ≤ d
  dne : d ≠ e
  ns : h'.Ns1 d (fun y => if y = "reason" then some v else none)
section
variable {prog : Program} {w : World} {A : Around} {R : Result → Shared → Prop} {K : PySem.W.Frag} {mg mb : Str → Option Value} {C : Addr}
theorem ref_made (T : RefTxt prog K mg C) {s : Shared} {v : Value} (X : K.In s.heap) (G : s.heap.Ns mainGlobals mg) (Bn : s.heap.Ns builtinsNs mb) (hbb : ∀ x : Str, x ≠ "__name__" → mb x = bootBuiltins x) (hlim : s.heap.NoLimit) (hroom : A.depth + 1 < recursionLimit)
    (hq : ∀ h' tk e d, RMade s.heap h' e C d v → R (.ok (.ret (.ref e))) { s with heap := h', toks := tk }) :
    codeAny (model prog w) A (.call (.ref C) ⟨[v], []⟩) R s := by
  obtain ⟨fI, oc, od, doc, pm, an, cda, ct, osl, cc, cl, cld, csl, ccl, cdd, vs, ccs, file, tf, iC, fnI, lF, hcd, lC, lD, hvs, hfile⟩ := T.fn
  obtain ⟨nm, N', qn, bs, bm, hdct, sn, sub, ab, col, dd, k0, k1, k2, k3, k5, hC, hT⟩ := PySem.W.excInit_of X T.xi
  obtain ⟨hp, g, dr, tk, os⟩ := s
  have k : ∀ b o, hp.get? b = some o → ((hp.push (PySem.W.kdv_tup [v])).push (HandSPX.excO C hp.objs.size)).get? b = some o := fun b o e => Heap.get?_push_of_some _ (Heap.get?_push_of_some _ e)
  have hget : ((hp.push (PySem.W.kdv_tup [v])).push (HandSPX.excO C hp.objs.size)).get? (hp.objs.size + 1) = some (HandSPX.excO C hp.objs.size) := by heap_get
  have hnx : K.lookup (hp.objs.size + 1) = none := by
    cases e : K.lookup (hp.objs.size + 1) with
    | none => rfl
    | some o =>
      have z : hp.get? (hp.objs.size + 1) = some o := X _ _ e
      exact absurd (Nat.lt_of_succ_lt (Heap.lt_size z)) (Nat.lt_irrefl _)
  refine HandSPX.call_own F.excBase_ArithmeticError hT hC (PySem.W.looks_findIn X iC) (fun self => PySem.W.exc_bind (X _ _ lF) (beq_iff_eq.mp (by
    have h1 : ((K.lookup fI).map (·.cls) == some (.type "function")) = true := fnI
    rw [lF] at h1
    exact h1)) self) (by show 1 ≤ sizeLine; decide) ?_
  refine ref_init (s := ⟨(hp.push (PySem.W.kdv_tup [v])).push (HandSPX.excO C hp.objs.size), g, dr, tk, os⟩) (x := hp.objs.size + 1) (t0 := hp.objs.size) T lF hcd lC lD hvs hfile (X.keeps k) hnx (G.keeps k) (Bn.keeps k) hbb (hlim.keeps k) hget ?_ fun h' tk' dx t1 I => ?_
  · show A.depth + 1 < recursionLimit
    exact hroom
  · have old : ∀ b o, hp.get? b = some o → h'.get? b = some o := fun b o e => I.keep b o (Nat.ne_of_lt (Nat.lt_succ_of_lt (Heap.lt_size e))) (k b o e)
    have z : hp.objs.size + 1 + 1 ≤ dx := by
      have dn := I.dbig
      first
        | (simpa only [Heap.size_push] using dn)
        | exact dn
        | (have q := dn; rw [Heap.size_push, Heap.size_push] at q; exact q)
    exact ⟨rfl, hq h' tk' (hp.objs.size + 1) dx ⟨old, Nat.le_succ _, ⟨_, _, I.obj, rfl, rfl, rfl, rfl⟩, Nat.le_trans (Nat.le_trans (Nat.le_succ _) (Nat.le_succ _)) z, I.dne, I.ns⟩⟩
end
theorem relO_reason {v : V} {v' : Value} (r : RelV v v') (f : Str) : RelO (List.lookup f [(("reason" : Str), v)]) (if f = "reason" then some v' else none) := by
  by_cases hw : f = "reason"
  · subst hw
    rw [if_pos rfl]
    have q : List.lookup ("reason" : Str) [(("reason" : Str), v)] = some v := by simp [List.lookup]
    rw [q]
    exact r
  · rw [if_neg hw]
    have qw : (f == ("reason" : Str)) = false := by simpa using hw
    have q2 : List.lookup f [(("reason" : Str), v)] = none := by simp [List.lookup, qw]
    rw [q2]
    trivial
section
variable {X : Cx} {C : Addr}
/-- Refused(e) -/
def tMkRef (C : Addr) (ta : TA) : L2.St → Hp → XK → Prop := fun σ H Q => ta σ H fun vs H1 => ∃ v, vs = [v] ∧ ∀ d, H1 d = none → Q (.ref C) (some d) (upd H1 d (.xd [(("reason" : Str), v)]))
theorem pmk_ref {a : Expr} {ta : TA} {p pos : Pos} {k : Nat} (T : RefTxt X.prog X.K X.mg C) (hr : Room k X.A) (ha : PA X [a] ta) (hg : Gl X "Refused" := by rfl)
    (he : starEach (a :: []) X.env = (false, eval a X.env) :: starEach [] X.env := by rfl) (hpl : (backTo pos (starEach [] X.env)).any (·.1) = false := by rfl) :
    PMk X (.Call (.Name "Refused" p) [a] [] pos) (tMkRef C ta) := by
  intro pins s σ H Q I h
  refine wpAny_Call_Name_kw (ld_glob I hg T.gC ?_)
  refine PySem.W.callWith_K (h₀ := X.base) I.ok.mod.kin T.kC (thn (ha.run pos pins s σ H _ I h) fun us s1 hh => ?_) he hpl
  obtain ⟨vs, H1, I1, r1, v, ev, q1⟩ := hh
  subst ev
  refine ⟨I1.kIn, ?_⟩
  cases r1 with
  | cons rv rn =>
    rename_i v' us'
    cases rn
    show wpAny _ _ (call (.ref C) [v']) _ _ _
    have hlim := I1.nolimit
    obtain ⟨mb, hmb, hbb⟩ := I1.mod.blt
    have G1 := I1.mod.glob.keeps I1.bk
    have B1 := hmb.keeps I1.bk
    obtain ⟨hp, g, dr, tk, os⟩ := s1
    refine wpAny_call (ref_made T I1.kIn G1 B1 hbb hlim (by have := hr.dp; omega) fun h' tk' e d M => ?_)
    show MkP X pins σ Q (.ref e) ⟨h', g, dr, tk', os⟩
    obtain ⟨oe, fv, hoe, hc, hd, hdat, h1⟩ := M.obj
    have hns := M.ns
    obtain ⟨G', g1, g2⟩ := restrict h' fun b => decide (b ≠ e)
    have gk : ∀ b, b ≠ e → G'.get? b = h'.get? b := fun b hb => g1 b (decide_eq_true hb)
    have ge : G'.get? e = none := g2 e (by simp)
    have old : ∀ b o, hp.get? b = some o → G'.get? b = some o := fun b o q => (gk b (Nat.ne_of_lt (Nat.lt_of_lt_of_le (Heap.lt_size q) M.new))).trans (M.keep b o q)
    have ob : ObjOk X.prog X.w (upd H1 d (.xd [(("reason" : Str), v)])) G' d (.xd [(("reason" : Str), v)]) :=
      ⟨_, hns.at (fun o q => (gk d M.dne).trans q), fun f => relO_reason rv f⟩
    have J : Inv X pins σ (upd H1 d (.xd [(("reason" : Str), v)])) ⟨G', g, dr, tk', os⟩ := I1.laid (t' := tk') old M.dbig ob
    refine ⟨e, oe, fv, ⟨G', g, dr, tk', os⟩, _, .ref C, some d, rfl, J, fun b o q => ?_, ge, hoe, ⟨hc, hd⟩, hdat, h1, ?_, rfl, I1.bare, raises_own T.exC T.tyC, q1 d (I1.hok.fresh M.dbig)⟩
    · by_cases hb : b = e
      · have q' : G'.get? b = some o := q
        rw [hb, ge] at q'; cases q'
      · exact (gk b hb).symm.trans q
    · rw [upd_ne (Ne.symm M.dne)]
      exact I1.hok.fresh M.new
/-- raise Refused(e) -/
theorem ps_raiseRef {a : Expr} {ta : TA} {W : WX} {p pos pos2 : Pos} {k : Nat} (hc : X.calm = true) (T : RefTxt X.prog X.K X.mg C) (hr : Room k X.A) (tk : Takes X W) (ha : PA X [a] ta) (hg : Gl X "Refused" := by rfl)
    (he : starEach (a :: []) X.env = (false, eval a X.env) :: starEach [] X.env := by rfl) (hpl : (backTo pos (starEach [] X.env)).any (·.1) = false := by rfl) :
    PS X (.Raise (some (.Call (.Name "Refused" p) [a] [] pos)) none pos2) (fun _ σ H => tMkRef C ta σ H fun cls d H' => W cls d σ H') := ps_raise hc tk (pmk_ref T hr ha hg he hpl)
/-- error.reason, error the exception that the suite holds (at a; its class cls, its dict d) -/
def tReason (C : Addr) (a : Addr) (cls : Value) (d : Option Addr) (te : TE) : TE := fun σ H Q => te σ H fun x H1 => x = .ref a ∧ cls = .ref C ∧ ∃ (dd : Addr) (v : V), d = some dd ∧ H1 dd = some (.xd [(("reason" : Str), v)]) ∧ Q v H1
theorem pe_reason {a : Addr} {oe : Obj} {cls : Value} {d : Option Addr} {pn : List (Addr × Obj)} {e : Expr} {te : TE} {pos : Pos} (T : RefTxt X.prog X.K X.mg C) (hz : Zc cls d oe) (hf : ∃ vs, oe.data = .fields vs) (he : PE (X.suite a ((a, oe) :: pn)) e te)
    (hb : attributeBase e "reason" X.env (eval e X.env) = eval e X.env := by rfl) :
    PE (X.suite a ((a, oe) :: pn)) (.Attribute e "reason" pos) (tReason C a cls d te) := by
  refine ⟨fun pins s σ H Q I h => ?_⟩
  refine attr_of hb (thn (he.run pins s σ H _ I h) fun u s1 hh => ?_)
  obtain ⟨x, H1, I1, rx, ex, ec, dd, v, ed, ea, q⟩ := hh
  subst ex
  obtain rfl : u = Value.ref a := rx
  subst ec
  subst ed
  obtain ⟨ha, _⟩ := I1.pin (a, oe) (List.mem_append_left _ List.mem_cons_self)
  obtain ⟨vs, hd⟩ := hf
  have hx : ObjOk X.prog X.w H1 s1.heap dd (.xd [(("reason" : Str), v)]) := I1.hok dd _ ea
  obtain ⟨mA, hns, hr⟩ := hx
  obtain ⟨od, ho, hl⟩ := lookIn_ns hns
  have l : List.lookup ("reason" : Str) [(("reason" : Str), v)] = some v := by simp [List.lookup]
  obtain ⟨u, hu, ru⟩ := RelO.some_of (v := v) (o := mA "reason") (by rw [← l]; exact hr "reason")
  have J : PySem.W.InstAt s1.heap a oe C (some od) := ⟨ha, hz.1, by unfold PySem.W.notCls; rw [hd] <;> rfl, by rw [hz.2]; exact ho⟩
  exact HandSPX.exc_get I1.kIn J T.ga T.gg T.exC (PySem.W.findObj_own T.hdC T.noN rfl (by rw [hl, hu])) (handed_of ru) ⟨v, H1, I1.tok _, ru, q⟩
end
end K14

set_option maxHeartbeats 4000000
/-! require_some_left (raising), free_set, _law_told -/
namespace K14
open PySem PySem.Spec PyProof.Rows L2
abbrev sFS : Stmt := top 55
abbrev sLTold : Stmt := top 68
/-- what a refusal carries -/
def RefAt (H : Hp) (d : Option Addr) : Prop := ∃ (dd t : Addr), d = some dd ∧ H dd = some (.xd [(("reason" : Str), .ref t)]) ∧ H t = some (.tup [.str "all"])
def spSomeX (K : PySem.W.Frag) (C CR : Addr) : Sp := fun vs H Q E => ∃ (a : Addr) (n : Nat) (ms : List (List Int)), vs = [.ref a] ∧ LotAt K H a C n ms ∧ LotD n ms ∧
  (isAll ms = false → Q .non H) ∧ (isAll ms = true → ∀ d H', Same H H' → RefAt H' d → E (.ref CR) d H')
def spFS (P : Addr) (K : PySem.W.Frag) (C CR : Addr) : Sp := fun vs H Q E => ∃ (a : Addr) (n : Nat) (ms : List (List Int)), vs = [.ref a] ∧ LotAt K H a C n ms ∧ LotD n ms ∧ GxR.TabG H P ∧
  (isAll ms = true → ∀ d H', Same H H' → RefAt H' d → E (.ref CR) d H') ∧
  (isAll ms = false → ((∀ c ∈ setsL n, isFree ms c = false) → ∀ H', ST P H H' → Q .non H') ∧ (∀ c x H', Best n ms c → ST P H H' → SqT K H' x (c.map V.int) → Q (.ref x) H'))
def spLTold (P : Addr) (K : PySem.W.Frag) (C : Addr) : Sp := fun vs H Q _ => ∃ (a : Addr) (n : Nat) (ms : List (List Int)), vs = [.ref a] ∧ LotAt K H a C n ms ∧ LotD n ms ∧ GxR.TabG H P ∧
  (isAll ms = true → ∀ H' x t, Same H H' → H' x = some (.tup [.str "refused", .ref t]) → H' t = some (.tup [.str "all"]) → Q (.ref x) H') ∧
  (isAll ms = false → ((∀ c ∈ setsL n, isFree ms c = false) → ∀ H', ST P H H' → Q .non H') ∧ (∀ c x H', Best n ms c → ST P H H' → SqT K H' x (c.map V.int) → Q (.ref x) H'))
section
variable {P : Program} {w : World} {K : PySem.W.Frag} {mg : Str → Option Value} {base : Heap} {PT C CR : Addr}
theorem ok_someX (S : Src K mg "require_some_left" sSome ["lot"]) (L : LotC K C) (T : RefTxt P K mg CR) (gA : ∃ t, mg "ALL" = some (.str "all" t)) (C1 : Cal P w K mg base CX0 1 "require_lot" ["value"] (spReqLot K C)) (C2 : Cal P w K mg base CX0 1 "is_all_in" ["members"] (spIsAll K)) :
    Cal P w K mg base (L2.CX P w) 2 "require_some_left" ["lot"] (spSomeX K C CR) := by
  refine cal_ofX S scSome (fun vs H Q E h => ?_) (fun f cdv A outer s H vs Q E hr h => ?_)
  · obtain ⟨a, n, ms, rfl, _⟩ := h
    rfl
  · obtain ⟨a, n, ms, rfl, hL, hD, q, e⟩ := h
    obtain ⟨p1, S1⟩ := L.s1
    obtain ⟨tA, gA⟩ := gA
    obtain ⟨dx, ws, M, as, hs, h0, h1, hM, hR⟩ := hL.slt
    refine ⟨_, pss_cons (ps_expr (pe_cal C1 hr pass0 (pa_cons (pv 0) pa_nil))) (pss_one (ps_if (pt_val (pe_cal C2 hr pass0 (pa_cons (SlX.pe_sl (pv 0)) pa_nil)))
      (pss_one (ps_raiseRef rfl T hr (takes_of rfl rfl rfl rfl) (by exact (pa_cons (pe_tup (pa_cons (pe_glob (v := .str "all") (by rfl) gA ⟨_, rfl⟩) pa_nil)) pa_nil)))) pss_nil)), ?_⟩
    refine ⟨_, rfl, a, n, ms, rfl, hL, _, rfl, a, C, dx, p1, ws, 1, _, rfl, hs, L.cls, S1, h1, M, as, ms, rfl, hM, hR, fun m hm => ?_, _, rfl, ?_⟩
    · obtain ⟨e1, e2⟩ := hD.rows m hm
      exact ⟨by rw [e1]; exact hD.lo, e2⟩
    · refine ite2 (fun c => ?_) (fun c => ?_)
      · refine ⟨by show 1 ≤ sizeLine; decide, fun t ht => ⟨_, rfl, fun d hd => ?_⟩⟩
        have s1 : Same H (upd H t (.tup [.str "all"])) := same_upd ht
        have s2 : Same (upd H t (.tup [.str "all"])) (upd (upd H t (.tup [.str "all"])) d (.xd [(("reason" : Str), .ref t)])) := same_upd hd
        exact e c (some d) _ (s1.trans s2) ⟨d, t, rfl, upd_same, s2 _ _ upd_same⟩
      · have c' : isAll ms = false := by
          cases z : isAll ms with
          | false => rfl
          | true => exact absurd z c
        exact q c'
theorem scFS : FnScope ["lot"] ["lot"] (defScope sFS) := ⟨rfl, rfl, rfl, by decide +kernel, rfl, by decide +kernel, by decide +kernel⟩
theorem ok_fs (S : Src K mg "free_set" sFS ["lot"]) (C1 : Cal P w K mg base (L2.CX P w) 2 "require_some_left" ["lot"] (spSomeX K C CR)) (C2 : Cal P w K mg base CX0 3 "free_set_in" ["lot"] (spFSet PT K C)) :
    Cal P w K mg base (L2.CX P w) 4 "free_set" ["lot"] (spFS PT K C CR) := by
  refine cal_ofX S scFS (fun vs H Q E h => ?_) (fun f cdv A outer s H vs Q E hr h => ?_)
  · obtain ⟨a, n, ms, rfl, _⟩ := h
    rfl
  · obtain ⟨a, n, ms, rfl, hL, hD, ht, e, q⟩ := h
    refine ⟨_, pss_cons (ps_expr (pe_cal (E := E) C1 (hr.mono (by decide)) (passes_call (takes_of rfl rfl rfl rfl) (fun _ _ _ _ h => h)) (pa_cons (pv 0) pa_nil))) (pss_one (ps_ret (pe_cal C2 hr pass0 (pa_cons (pv 0) pa_nil)))), ?_⟩
    refine ⟨_, rfl, a, n, ms, rfl, hL, hD, fun c => ?_, e⟩
    obtain ⟨q1, q2⟩ := q c
    exact ⟨_, rfl, a, n, ms, rfl, hL, hD.hi, hD.len, hD.short, ht, q1, q2⟩
/-! _law_told -/
theorem scLTold : FnScope ["_law_lot", "error"] ["_law_lot"] (defScope sLTold) := ⟨rfl, rfl, rfl, by decide +kernel, rfl, by decide +kernel, by decide +kernel⟩
abbrev tsLTold (CR : Addr) : Addr → Value → Option Addr → TS := fun a cls d => tRet (tTup (tCons (tC (.str "refused")) (tCons (tReason CR a cls d (tVar 1)) tNil)))
theorem ok_ltold (S : Src K mg "_law_told" sLTold ["_law_lot"]) (T : RefTxt P K mg CR) (C1 : Cal P w K mg base (L2.CX P w) 4 "free_set" ["lot"] (spFS PT K C CR)) : Cal P w K mg base CX0 5 "_law_told" ["_law_lot"] (spLTold PT K C) := by
  refine cal_of S scLTold (fun vs H Q E h => ?_) (fun f cdv A outer s H vs Q E hr h => ?_)
  · obtain ⟨a, n, ms, rfl, _⟩ := h
    rfl
  · obtain ⟨a, n, ms, rfl, hL, hD, ht, e, q⟩ := h
    obtain ⟨f1, fd1, F1, g1, kp1, b1⟩ := C1
    refine ⟨_, pss_one (ps_try_as (i := 1) (tb := fun W => tRet (tCallS (spFS PT K C CR) (WE W) (tCons (tVar 0) tNil))) (ts := tsLTold CR) (Wout := fun _ _ _ _ => False) rfl rfl scLTold.nd rfl rfl ⟨rfl, by decide, Or.inl T.gC⟩ takes0
      (fun W pn xe tk _ => pss_one (ps_ret (by exact (pe_callS F1 hr rfl g1 kp1 b1 (fun σ => passAt tk σ) (by exact (pa_cons (pv 0) pa_nil))))))
      (fun a oe cls d pn hz hf => pss_one (ps_ret (by exact (pe_tup (pa_cons pe_str (pa_cons (pe_reason T hz hf (pv 1)) pa_nil))))))), ?_⟩
    refine ⟨_, rfl, a, n, ms, rfl, hL, hD, ht, fun c d H1 s1 hr1 => ?_, q⟩
    obtain ⟨dd, t, rfl, h1, h2⟩ := hr1
    refine ⟨true, T.te, fun _ a0 ha0 => ?_, fun z => Bool.noConfusion z⟩
    refine ⟨_, rfl, rfl, rfl, dd, .ref t, rfl, h1, by show 2 ≤ sizeLine; decide, fun x hx => ?_⟩
    exact e c _ x t (s1.trans (same_upd hx)) upd_same (same_upd hx _ _ h2)
end
end K14

set_option maxHeartbeats 4000000
/-! t[::-1], t a tuple of ints -/
namespace K14
open PySem PySem.Spec PyProof.Rows L2
section
variable {prog : Program} {w : World} {A : Around} {E : Value → Shared → Prop} {s : Shared} {t sl : Addr} {vl vu vs : Value}
/-- the three parts of [::-1] over n items: from the last one on, n places -/
theorem back_parts (n : Nat) : (match Builtin.Slice.sliceAdjust none none (-1) (n : Int) with | (lo, hi) => (lo, (-1 : Int), Builtin.Slice.slicePlaces lo hi (-1))) = ((n : Int) - 1, -1, n) := by
  have ends : Builtin.Slice.sliceAdjust none none (-1) (n : Int) = ((n : Int) - 1, -1) := by simp [Builtin.Slice.sliceAdjust]
  have count : Builtin.Slice.slicePlaces ((n : Int) - 1) (-1) (-1) = n := by
    cases n with
    | zero => decide
    | succ m =>
      have more : ((m + 1 : Nat) : Int) - 1 > -1 := by omega
      simp only [Builtin.Slice.slicePlaces, if_neg (show ¬ ((-1 : Int) > 0) by decide), if_pos more, Int.neg_neg, Int.ediv_one]
      omega
  rw [ends]
  simp only [count]
theorem back_slice {n : Nat} {Q : Int × Int × Nat → Shared → Prop} (hs : s.heap.IsSliceOf sl vl vu vs) (pl : IsPart vl none) (pu : IsPart vu none) (ps : IsPart vs (some (-1))) (q : Q ((n : Int) - 1, -1, n) s) : wpAny (model prog w) A (Builtin.Slice.sliceApplied (.ref sl) (pure (n : Int))) Q E s := by
  obtain ⟨o, ho, -, data⟩ := hs
  have part : ∀ {v : Value} {k : Nat} {R : Value → Shared → Prop}, (#[vl, vu, vs] : Array Value)[k]? = some v → R v s → wpAny (model prog w) A (field (.ref sl) k) R E s := fun hv hR => wpAny_field ho data hv hR
  unfold Builtin.Slice.sliceApplied
  unfold Builtin.Slice.sliceFields
  refine wpAny_bind (wpAny_bind (part (v := vl) rfl (wpAny_bind (part (v := vu) rfl (wpAny_bind (part (v := vs) rfl (wpAny_pure (wpAny_bind (HT.slicePart_ ps ?_)))))))))
  refine wpAny_ite_split (fun z => absurd z (by decide)) fun _ => ?_
  refine wpAny_bind (HT.slicePart_ pl (wpAny_bind (HT.slicePart_ pu (wpAny_bind (wpAny_pure (wpAny_pure (a := _) ?_))))))
  rw [← back_parts n] at q
  exact q
/-- the items of t[::-1] -/
def backs (items : Array Value) : Array Value := ((List.range items.size).filterMap fun k : Nat => items[((items.size : Int) - 1 + (k : Int) * (-1)).toNat]?).toArray
theorem backs_size (items : Array Value) : (backs items).size ≤ items.size := by
  have z := List.length_filterMap_le (fun k : Nat => items[((items.size : Int) - 1 + (k : Int) * (-1)).toNat]?) (List.range items.size)
  rwa [List.length_range] at z
theorem backs_in {items : Array Value} {z : Value} (h : z ∈ (backs items).toList) : z ∈ items.toList := by
  obtain ⟨j, _, e⟩ := List.mem_filterMap.mp h
  exact Array.mem_toList_iff.mpr (Array.mem_of_getElem? e)
theorem item_back {items : Array Value} {Q : Value → Shared → Prop} (ht : IsTup s.heap t items) (hs : s.heap.IsSliceOf sl vl vu vs) (pl : IsPart vl none) (pu : IsPart vu none) (ps : IsPart vs (some (-1))) (few : items.size ≤ sizeLine)
    (q : Q (.ref s.heap.objs.size) { s with heap := s.heap.push ⟨.type "tuple", none, .seq (backs items), #[]⟩ }) : wpAny (model prog w) A (getItem (.ref t) (.ref sl)) Q E s := by
  have fits : sizeOk (.seq (backs items)) := Nat.le_trans (backs_size items) few
  have isSl : s.TypeIs (.ref sl) "slice" := hs.elim fun o z => ⟨o, z.1, z.2.1⟩
  have body : ∀ {A' : Around} {E' R : Value → Shared → Prop}, R (.ref s.heap.objs.size) { s with heap := s.heap.push ⟨.type "tuple", none, .seq (backs items), #[]⟩ } →
      wpAny (model prog w) A' (Builtin.«tuple.__getitem__» ⟨[.ref t, .ref sl], []⟩) (fun fin s' => ∃ v, fin = .done (.ret v) ∧ R v s') E' s := by
    intro A' E' R z
    refine wpAny_bind (m := Builtin.Tuple.tupleItemsOf (.ref t)) (tupleItemsOf_ ht (wpAny_bind (wpAny_typeOf isSl ?_)))
    refine wpAny_ite_split (fun _ => wpAny_bind (back_slice hs pl pu ps ?_)) fun no => absurd (by decide) no
    refine wpAny_ite_split (fun all => ?_) fun _ => ?_
    · rw [Bool.and_eq_true, Bool.and_eq_true] at all
      exact absurd all.1.2 (by decide)
    · wp_walk using wpAny_newObj_type
      all_goals first
        | exact fits
        | exact ⟨_, rfl, z⟩
  unfold getItem
  exact wpAny_holding (wpAny_bind (wpAny_sequenceKey ht.typeIs (by decide) (wpAny_bind (wpAny_callSpecial?_slot (name := "__getitem__") ht.typeIs PyProof.Rows.slot_tuple_getitem
    (wpAny_call_entry PyProof.Rows.slot_tuple_getitem ht.typeIs entry_tuple_getitem (body (wpAny_pure q)) (args_tuple_getitem (.ref t) (.ref sl)))))))
end
theorem vals_sub {ns : List Int} {its : List Value} (r : Vals (ns.map V.int) its) : ∀ zs : List Value, (∀ z ∈ zs, z ∈ its) → ∃ ms : List Int, Vals (ms.map V.int) zs ∧ ms.length = zs.length
  | [], _ => ⟨[], .nil, rfl⟩
  | z :: zs, h => by
    obtain ⟨ms, r2, e⟩ := vals_sub r zs fun y hy => h y (List.mem_cons_of_mem _ hy)
    obtain ⟨i, hi, ez⟩ := List.getElem_of_mem (h z List.mem_cons_self)
    have hl := r.length
    have hlt : i < ns.length := by rw [List.length_map] at hl; omega
    obtain ⟨u, hu, ru⟩ := r.get (i := i) (x := .int ns[i]) (by rw [List.getElem?_map, List.getElem?_eq_getElem hlt]; rfl)
    rw [List.getElem?_eq_getElem hi, ez] at hu
    cases hu
    exact ⟨ns[i] :: ms, .cons ru r2, by rw [List.length_cons, List.length_cons, e]⟩
def tRevT (K : PySem.W.Frag) (te : TE) : TE := fun σ H Q => te σ H fun x H1 => ∃ (a : Addr) (ns : List Int), x = .ref a ∧ SqT K H1 a (ns.map V.int) ∧ ∀ (p : Addr) (ms : List Int), H1 p = none → ms.length ≤ ns.length → Q (.ref p) (upd H1 p (.tup (ms.map V.int)))
theorem pe_revT {X : Cx} {e : Expr} {te : TE} {k : Nat} {p1 p2 p3 pos : Pos} (he : PE X e te) : PE X (.Subscript e (.Slice none none (some (.UnaryOp .USub (.Constant (.int 1) k p1) p2)) p3) pos) (tRevT X.K te) := by
  constructor
  intro pins s σ H Q I h
  have open_ : ∀ {H' : Hp} {s' : Shared} (I' : Inv X pins σ H' s'), _ := fun {H' s'} I' => po_none.run pins s' σ H' (fun o H2 => o = none ∧ H' = H2) I' ⟨rfl, rfl⟩
  have minus : PO X (some (.UnaryOp .USub (.Constant (.int 1) k p1) p2)) (tPart (tUn (rU fun i => .int (-i)) (tC (.int 1)))) := by exact po_some (pe_un un_neg pe_int)
  refine Subscript_ (thn (he.run pins s σ H _ I h) ?_)
  rintro v s1 ⟨_, H1, I1, r1, a, ns, rfl, hx, q⟩
  obtain rfl : v = .ref a := r1
  refine wpAny_Slice (thn (open_ I1) ?_)
  rintro vl s2 ⟨_, _, I2, pl, rfl, rfl⟩
  refine thn (open_ I2) ?_
  rintro vu s3 ⟨_, _, I3, pu, rfl, rfl⟩
  refine thn (minus.run pins s3 σ _ (fun o H' => o = some (-1) ∧ H1 = H') I3 ⟨1, rfl, -1, rfl, rfl, rfl⟩) ?_
  rintro vs s4 ⟨_, _, I4, ps, rfl, rfl⟩
  have I5 := I4.kept (h' := s4.heap.push ⟨.type "slice", none, .fields #[vl, vu, vs], #[]⟩) (t' := s4.toks) fun b o z => Heap.get?_push_of_some _ z
  obtain ⟨its, r, ht, few⟩ := I5.tuple hx
  have len := r.length
  rw [List.length_map] at len few
  obtain ⟨ms, rm, em⟩ := vals_sub r (backs its.toArray).toList fun z hz => backs_in (items := its.toArray) hz
  have shorter : ms.length ≤ ns.length := by
    have z : (backs its.toArray).toList.length ≤ its.length := backs_size its.toArray
    omega
  refine tail_any (ops := [.ref a, .ref s4.heap.objs.size]) ht.typeIs PyProof.Rows.slot_tuple_getitem.lookup (item_back ht (Heap.IsSliceOf.new _ vl vu vs) pl pu ps (by rw [List.size_toArray]; omega) ?_) (by with_unfolding_all rfl)
  have made : ObjOk X.prog X.w (upd H1 (s4.heap.push ⟨.type "slice", none, .fields #[vl, vu, vs], #[]⟩).objs.size (.tup (ms.map V.int))) ((s4.heap.push ⟨.type "slice", none, .fields #[vl, vu, vs], #[]⟩).push ⟨.type "tuple", none, .seq (backs its.toArray), #[]⟩)
      (s4.heap.push ⟨.type "slice", none, .fields #[vl, vu, vs], #[]⟩).objs.size (.tup (ms.map V.int)) := ⟨by rw [List.length_map]; omega, _, rm, by rw [Array.toArray_toList]; exact IsTup.new _ _⟩
  exact ⟨.ref _, _, I5.laid (t' := s4.toks) (fun b o z => Heap.get?_push_of_some _ z) (Nat.le_refl _) made, rfl, q _ ms (I5.hok.fresh (Nat.le_refl _)) shorter⟩
end K14

set_option maxHeartbeats 4000000
/-! plain: free sets of an antichain -/
namespace K14
open PySem PySem.Spec PyProof.Rows L2
def freeL (n : Nat) (ms : List (List Int)) : List (List Int) := (setsL n).filter (isFree ms)
theorem isFree_perm {ms ns : List (List Int)} (p : ms.Perm ns) (c : List Int) : isFree ms c = isFree ns c :=
  Bool.eq_iff_iff.mpr ⟨fun h => List.all_eq_true.mpr fun m hm => List.all_eq_true.mp h m (p.mem_iff.mpr hm), fun h => List.all_eq_true.mpr fun m hm => List.all_eq_true.mp h m (p.mem_iff.mp hm)⟩
theorem outs_nil {m : List Int} (h0 : ∀ x ∈ m, 0 ≤ x) (h : outs m [] = false) : ∀ x ∈ m, x = 0 := by
  unfold outs at h
  rw [List.any_eq_false] at h
  intro x hx
  obtain ⟨i, hi, e⟩ := List.getElem_of_mem hx
  have h1 := h i (List.mem_range.mpr hi)
  have e2 : m.getD i 0 = x := by rw [List.getD_eq_getElem?_getD, List.getElem?_eq_getElem hi, ← e] <;> rfl
  rw [e2] at h1
  have h2 := h0 x hx
  by_cases z : 0 < x
  · exfalso
    apply h1
    rw [decide_eq_true z]
    simp
  · omega
theorem zero_outs {m c : List Int} (h : ∀ x ∈ m, x = 0) : outs m c = false := by
  unfold outs
  rw [List.any_eq_false]
  intro i hi
  have e := h _ (getD_mem0 (List.mem_range.mp hi))
  rw [e]
  simp
theorem zero_dv {m y : List Int} (h : ∀ x ∈ m, x = 0) (hy : ∀ x ∈ y, 0 ≤ x) : dv m y = true := by
  unfold dv
  rw [List.all_eq_true]
  intro i hi
  have h1 := List.mem_range.mp hi
  have e := h _ (getD_mem0 (m := m) (i := i) (by omega))
  have e2 := hy _ (getD_mem0 (m := y) (i := i) (by omega))
  rw [e]
  exact decide_eq_true e2
theorem all_none {ms : List (List Int)} (h : isAll ms = true) (c : List Int) : isFree ms c = false := by
  unfold isAll at h
  rw [Bool.and_eq_true, decide_eq_true_iff] at h
  obtain ⟨m, rfl⟩ := List.length_eq_one_iff.mp h.1
  have hz : ∀ x ∈ m, x = 0 := fun x hx => of_decide_eq_true (List.all_eq_true.mp h.2 x hx)
  unfold isFree
  rw [List.all_cons, zero_outs hz]
  rfl
theorem isAll_perm {ms ns : List (List Int)} (p : ms.Perm ns) : isAll ms = isAll ns := by
  by_cases h : ms.length = 1
  · obtain ⟨m, rfl⟩ := List.length_eq_one_iff.mp h
    have e := p.symm
    rw [List.perm_singleton] at e
    rw [e]
  · have h2 : ¬ ns.length = 1 := by rw [← p.length_eq]; exact h
    unfold isAll
    rw [decide_eq_false h, decide_eq_false h2, Bool.false_and, Bool.false_and]
theorem sum_zero : ∀ {m : List Int}, (∀ x ∈ m, x = 0) → m.sum = 0
  | [], _ => rfl
  | x :: m, h => by
    rw [List.sum_cons, h x List.mem_cons_self, sum_zero fun y hy => h y (List.mem_cons_of_mem _ hy)]
    rfl
theorem nil_or_all {d : Nat} {ms : List (List Int)} (a : Anti d ms) (h : isFree ms [] = false) : ∃ m, ms = [m] ∧ (∀ x ∈ m, x = 0) ∧ isAll ms = true := by
  unfold isFree at h
  rw [List.all_eq_false] at h
  obtain ⟨m, hm, ho⟩ := h
  have ho2 : outs m [] = false := by
    cases e : outs m [] with
    | false => rfl
    | true => exact absurd e ho
  have hz := outs_nil (fun x hx => ((a.rows m hm).2 x hx).1) ho2
  have only : ∀ y ∈ ms, y = m := fun y hy => by
    by_cases e : m = y
    · exact e.symm
    · have h1 := a.anti m hm y hy e
      rw [zero_dv hz fun x hx => ((a.rows y hy).2 x hx).1] at h1
      cases h1
  have e : ms = [m] := by
    match ms, hm, only, a.nodup with
    | [x], _, o, _ => rw [o x List.mem_cons_self]
    | x :: y :: r, _, o, nd =>
      have e1 := o x List.mem_cons_self
      have e2 := o y (List.mem_cons_of_mem _ List.mem_cons_self)
      rw [e1, e2] at nd
      exact absurd List.mem_cons_self (List.nodup_cons.mp nd).1
  refine ⟨m, e, hz, ?_⟩
  rw [e]
  unfold isAll
  rw [Bool.and_eq_true]
  exact ⟨rfl, List.all_eq_true.mpr fun x hx => decide_eq_true (hz x hx)⟩
theorem nil_mem : ∀ n : Nat, ([] : List Int) ∈ setsL n
  | 0 => List.mem_singleton.mpr rfl
  | n + 1 => List.mem_append_left _ (nil_mem n)
theorem Anti.lotD {d : Nat} {ms ns : List (List Int)} (a : Anti d ms) (p : ns.Perm ms) : LotD d ns :=
  ⟨a.pos, a.small, by rw [p.length_eq]; exact Nat.le_trans a.len (by decide), fun m hm => ⟨(a.rows m (p.mem_iff.mp hm)).1, fun x hx => ((a.rows m (p.mem_iff.mp hm)).2 x hx).1⟩⟩
theorem mem_freeL {n : Nat} {ms : List (List Int)} {c : List Int} : c ∈ freeL n ms ↔ c ∈ setsL n ∧ isFree ms c = true := List.mem_filter
/-- the greatest number of letters of a free set, -1 where there is none -/
def IsDue (n : Nat) (ms : List (List Int)) (m : Int) : Prop := m ∈ (freeL n ms).map (fun c => (c.length : Int)) ++ [-1] ∧ ∀ y ∈ (freeL n ms).map (fun c => (c.length : Int)) ++ [-1], y ≤ m
theorem due_some {n : Nat} {ms : List (List Int)} {m : Int} (h : IsDue n ms m) (hm : m ≠ -1) : ∃ c, Best n ms c ∧ (c.length : Int) = m := by
  rcases List.mem_append.mp h.1 with h1 | h1
  · obtain ⟨c, hc, e⟩ := List.mem_map.mp h1
    obtain ⟨h2, h3⟩ := mem_freeL.mp hc
    refine ⟨c, ⟨h2, h3, fun d hd hf => ?_⟩, e⟩
    have h4 := h.2 (d.length : Int) (List.mem_append_left _ (List.mem_map.mpr ⟨d, mem_freeL.mpr ⟨hd, hf⟩, rfl⟩))
    omega
  · exact absurd (List.mem_singleton.mp h1) hm
theorem due_none {n : Nat} {ms : List (List Int)} (h : IsDue n ms (-1)) : ∀ c ∈ setsL n, isFree ms c = false := fun c hc => by
  cases e : isFree ms c with
  | false => rfl
  | true =>
    have h4 := h.2 (c.length : Int) (List.mem_append_left _ (List.mem_map.mpr ⟨c, mem_freeL.mpr ⟨hc, e⟩, rfl⟩))
    omega
theorem due_best {n : Nat} {ms : List (List Int)} {m : Int} {c : List Int} (h : IsDue n ms m) (b : Best n ms c) : (c.length : Int) = m := by
  have h4 := h.2 (c.length : Int) (List.mem_append_left _ (List.mem_map.mpr ⟨c, mem_freeL.mpr ⟨b.mem, b.free⟩, rfl⟩))
  have hm : m ≠ -1 := by omega
  obtain ⟨d, bd, e⟩ := due_some h hm
  have := bd.len b
  omega
theorem best_perm {n : Nat} {ms ns : List (List Int)} {c : List Int} (p : ms.Perm ns) (b : Best n ms c) : Best n ns c :=
  ⟨b.mem, by rw [← isFree_perm p]; exact b.free, fun d hd hf => b.max d hd (by rw [isFree_perm p]; exact hf)⟩
/-- the law's judgement of a value -/
theorem judge {n : Nat} {ms : List (List Int)} {m : Int} {c : List Int} (h : IsDue n ms m) (hm : m ≠ -1) : (Best n ms c ↔ (c.length : Int) = m ∧ c ∈ freeL n ms) := by
  constructor
  · intro b
    exact ⟨due_best h b, mem_freeL.mpr ⟨b.mem, b.free⟩⟩
  · rintro ⟨h1, h2⟩
    obtain ⟨d, bd, e⟩ := due_some h hm
    obtain ⟨h3, h4⟩ := mem_freeL.mp h2
    exact ⟨h3, h4, fun x hx hf => by have := bd.max x hx hf; omega⟩
theorem Best.unique_all {n : Nat} {ms : List (List Int)} {c : List Int} (b : Best n ms c) : isAll ms = false := by
  cases e : isAll ms with
  | false => rfl
  | true =>
    have h := b.free
    rw [all_none e] at h
    cases h
end K14

set_option maxHeartbeats 4000000
/-! the law's values -/
namespace K14
open PySem PySem.Spec PyProof.Rows L2
inductive VOk (K : PySem.W.Frag) (m : Int) (H : Hp) : V → Prop
  | non : VOk K m H .non
  | int (i : Int) : VOk K m H (.int i)
  | str (z : Str) : VOk K m H (.str z)
  | lst {a : Addr} {xs : List V} (h : H a = some (.lst xs)) : VOk K m H (.ref a)
  | dct {a : Addr} (h : H a = some (.dK [])) : VOk K m H (.ref a)
  | tup {x : Addr} {xs : List V} (h : SqT K H x xs) (hl : xs.length ≤ 1000) (hb : ∀ y ∈ xs, isIB y) (hi : (xs.length : Int) = m → ∃ c : List Int, xs = c.map V.int) : VOk K m H (.ref x)
section
variable {K : PySem.W.Frag} {m : Int} {H H' : Hp} {v : V} {P : Addr}
theorem VOk.same (s : Same H H') (h : VOk K m H v) : VOk K m H' v := by
  cases h with
  | non => exact .non
  | int i => exact .int i
  | str z => exact .str z
  | lst h => exact .lst (s _ _ h)
  | dct h => exact .dct (s _ _ h)
  | tup h a b c => exact .tup (s.tupT h) a b c
theorem VOk.st (s : ST P H H') (h : VOk K m H v) : VOk K m H' v := by
  cases h with
  | non => exact .non
  | int i => exact .int i
  | str z => exact .str z
  | lst h => exact .lst (s.keep h fun _ z => nomatch z)
  | dct h => exact .dct (s.keep h fun _ z => nomatch z)
  | tup h a b c => exact .tup (s.tupT h) a b c
theorem VOk.ints {x : Addr} {c : List Int} (h : SqT K H x (c.map V.int)) (hl : c.length ≤ 1000) : VOk K m H (.ref x) := by
  refine .tup h (by rw [List.length_map]; exact hl) (fun y hy => ?_) fun _ => ⟨c, rfl⟩
  obtain ⟨i, _, rfl⟩ := List.mem_map.mp hy
  exact .inl ⟨i, rfl⟩
theorem sqT_ty {x : Addr} {xs : List V} (h : SqT K H x xs) : TyX K H (.ref x) (.type "tuple") := by
  rcases h with (h | ⟨o, h⟩) | ⟨o, its, n, h, hc, _⟩
  · exact .base (.tup h)
  · exact .fTuple h
  · exact .kTuple h hc
theorem tab_sj {j : Addr} (s : SJ j H H') (t : GxR.TabG H P) : GxR.TabG H' P := by
  obtain ⟨ps, hp, ht⟩ := t
  exact ⟨ps, s.keep hp (fun _ z => nomatch z), ht⟩
theorem tail_step {p : Addr} {c : List Int} {Q : VK} (hc : SqT K H p (c.map V.int)) (k : ∀ H4 x, Same H H4 → SqT K H4 x ((c.drop 1).map V.int) → Q (.ref x) H4) : rSlA K (.ref p) (some 1) none H Q := by
  refine ⟨p, _, rfl, hc, fun hw => ?_, fun _ q hq => ?_⟩
  · refine k H p (Same.refl H) ?_
    have e2 := cut1_whole hw
    rw [← List.map_drop] at e2
    rw [e2]
    exact hc
  · refine k _ q (same_upd hq) (SqT.of ?_)
    rw [upd_same, cut1, List.map_drop]
theorem cut_sub {xs : List V} {lo hi : Option Int} {v : V} (h : v ∈ cutV xs lo hi) : v ∈ xs := by
  unfold cutV at h
  exact List.mem_of_mem_drop (List.mem_of_mem_take h)
theorem at_last {c : List Int} (h : c ≠ []) : ∃ z, atI (c.map V.int) (-1) = some (.int z) := by
  rcases List.eq_nil_or_concat c with e | ⟨d, z, e⟩
  · exact absurd e h
  · rw [List.concat_eq_append] at e
    rw [e, List.map_append]
    exact ⟨z, atI_last _ _⟩
theorem Rows.all {as : List Addr} {ms : List (List Int)} (r : Rows K H as ms) (hl : ∀ c ∈ ms, c.length ≤ 1000) {v : V} (h : v ∈ as.map V.ref) : VOk K m H v := by
  obtain ⟨a, ha, rfl⟩ := List.mem_map.mp h
  obtain ⟨i, hi, e⟩ := List.getElem_of_mem ha
  obtain ⟨c, hc, hq⟩ := r.get (i := i) (a := a) (by rw [List.getElem?_eq_getElem hi, e])
  exact .ints hq (hl c (List.mem_of_getElem? hc))
theorem Rows.st {P : Addr} (s : ST P H H') {as : List Addr} {ms : List (List Int)} (r : Rows K H as ms) : Rows K H' as ms := s.rows r
theorem Rows.all2 {as : List Addr} {ms : List (List Int)} (r : Rows K H as ms) : True := trivial
theorem rg_ok {q : Addr} {n : Nat} (hn : n ≤ 8) (h : H q = some (.tup (rgV 0 (n : Int)))) : VOk K m H (.ref q) := by
  have e : rgV 0 (n : Int) = ((List.range ((n : Int) - 0).toNat).map fun i => (0 : Int) + (i : Nat)).map V.int := by
    unfold rgV
    rw [List.map_map]
    rfl
  rw [e] at h
  refine .ints (SqT.of h) ?_
  rw [List.length_map]
  rw [List.length_range]
  omega
end
theorem lot_made2 {K : PySem.W.Frag} {C : Addr} {n : Nat} {M x dx : Addr} {L : List (Addr × List Int)} {H : Hp} {Qn : Hp → Prop} {E : XK} (hM : H M = some (.tup (refsOf L))) (hR : RowsAt H L) (hA : Anti n (rowsOf L)) (hx : H x = none) (hdx : H dx = none) (hne : dx ≠ x)
    (q : ∀ (H' : Hp) (ms : List (List Int)), Same H H' → LotAt K H' x C n ms → ms.Perm (rowsOf L) → Qn H') :
    spInit K C (.ref x :: ([.int n, .ref M] ++ [])) (upd (upd H dx (.own x)) x (.ins C dx [])) (fun v H2 => v = .non ∧ Qn H2) E := by
  have hx1 : (upd H dx (.own x)) x = none := by
    rw [upd_ne (Ne.symm hne)]
    exact hx
  have s1 : Same H (upd (upd H dx (.own x)) x (.ins C dx [])) := (same_upd hdx).trans (same_upd hx1)
  refine ⟨x, dx, n, M, L, rfl, upd_same, hne, ?_, s1 _ _ hM, hR.same s1, hA, fun H' M' L' vs' h0 h1 h2 h3 h4 h5 h6 h7 => ⟨rfl, ?_⟩⟩
  · rw [upd_ne hne]
    exact upd_same
  · refine q H' (rowsOf L') (fun b u e => h0 b u (ne_of_none e hx) (ne_of_none e hdx) (s1 _ _ e)) ⟨dx, vs', M', L'.map (·.1), h1, h2, h3, h4, ?_, h6.rows⟩ h7
    rw [refs_map]
    exact SqT.of h5
/-! dimension, told: the data -/
theorem dp_ref {K : PySem.W.Frag} {H : Hp} {x t : Addr} (h1 : H x = some (.tup [.str "refused", .ref t])) (h2 : H t = some (.tup [.str "all"])) : Dp K H (.ref x) (.tuple [.str "refused", .tuple [.str "all"]]) :=
  .tup (SqT.of h1) (.cons (.str _) (.cons (.tup (SqT.of h2) (.cons (.str _) .nil)) .nil))
theorem shaped_ref : SeqAt.shaped (.tuple [.str "refused", .tuple [.str "all"]]) = true := by decide +kernel
theorem eqv_ref : PyData.eqv (.tuple [.str "refused", .tuple [.str "all"]]) (.tuple [.str "refused", .tuple [.str "all"]]) = true := by decide +kernel
end K14

set_option maxHeartbeats 4000000
/-! _law_right -/
namespace K14
open PySem PySem.Spec PyProof.Rows L2
abbrev sRight : Stmt := top 69
theorem units65 {k : Nat} {A : Around} (r : Room k A) : A.units + 65 < cLine := by have := r.un; omega
/-- what stands stays, but for the object at j and tables -/
def Kp (j : Addr) (H H' : Hp) : Prop := ∀ b u, b ≠ j → (∀ ps, u ≠ .tbl ps) → H b = some u → H' b = some u
theorem Kp.trans {j : Addr} {H H1 H2 : Hp} (a : Kp j H H1) (b : Kp j H1 H2) : Kp j H H2 := fun c u h1 h2 e => b c u h1 h2 (a c u h1 h2 e)
theorem Kp.sj {j : Addr} {H H' : Hp} (s : SJ j H H') : Kp j H H' := fun b u n _ e => s.at_ b u n e
theorem Kp.sm {j : Addr} {H H' : Hp} (s : Same H H') : Kp j H H' := fun b u _ _ e => s b u e
theorem Kp.st {P j : Addr} {H H' : Hp} (s : ST P H H') : Kp j H H' := fun _ _ _ n e => s.keep e n
def spRight (P : Addr) (K : PySem.W.Frag) : Sp := fun vs H Q _ => ∃ (j : Addr), vs = [.ref j] ∧ JugAt H j ∧ GxR.TabG H P ∧ ∀ H', GxR.TabG H' P → Kp j H H' → Q (.bl true) H'
section
variable {P : Program} {w : World} {K : PySem.W.Frag} {mg : Str → Option Value} {base : Heap} {PT C CR : Addr}
theorem scRight : FnScope ["_law_jug_here", "_law_letters", "_law_members_here", "_law_lot", "_law_free", "_law_due", "_law_told_here", "_law_values", "_law_value", "_law_is_right", "_law_chosen"] ["_law_jug_here"] (defScope sRight) := ⟨rfl, rfl, rfl, by decide +kernel, rfl, by decide +kernel, by decide +kernel⟩
abbrev ttRight (K : PySem.W.Frag) : TT := tB (tCall (spFree K) [] E0 (tCons (tVar 2) (tCons (tVar 10) tNil)))
abbrev teLen (K : PySem.W.Frag) (i : Nat) : TE := tCB (rLenS K) (tCons (tVar i) tNil)
abbrev NR : List Str := ["_law_jug_here", "_law_letters", "_law_members_here", "_law_lot", "_law_free", "_law_due", "_law_told_here", "_law_values", "_law_value", "_law_is_right", "_law_chosen"]
theorem npart {σ : L2.St} {H : Hp} {Q : Option Int → Hp → Prop} (h : Q none H) : tNoPart σ H Q := h
theorem last_step {σ : L2.St} {H : Hp} {x : Addr} {c : List Int} {Q : VK} (hv : σ[6]? = some (some (.ref x))) (hx : SqT K H x (c.map V.int)) (hl : c.length ≤ 8)
    (k : ∀ H4 y, Same H H4 → VOk K (c.length : Int) H4 (.ref y) → Q (.ref y) H4) :
    tIf (tTest (tOp (rNeD K) (tVar 6) (tTup tNil))) (tOp (rCatA K) (tVar 6) (tTup (tCons (tOp (rIxT K) (tVar 6) (tUn (rU fun i => .int (-i)) (tC (.int 1)))) tNil))) (tTup (tCons (tC (.bl true)) tNil)) σ H Q := by
  refine ⟨_, hv, by show 0 ≤ sizeLine; exact Nat.zero_le _, fun t0 ht0 => ?_⟩
  have s0 : Same H (upd H t0 (.tup [])) := same_upd ht0
  refine ⟨_, _, dp_tup (s0.tupT hx), dp_tup (ns := []) (SqT.of upd_same), shaped_tup _, shaped_tup _, _, rfl, ite2 (fun cc => ?_) (fun cc => ?_)⟩
  · rw [eqv_tup] at cc
    have hc : c ≠ [] := fun e => by rw [e] at cc; simp at cc
    obtain ⟨z, hz⟩ := at_last hc
    refine ⟨_, hv, _, hv, 1, rfl, x, _, -1, .int z, rfl, rfl, s0.tupT hx, hz, by show 1 ≤ sizeLine; decide, fun q hq => ?_⟩
    refine cat_step (D := x) (H1 := H) (F := fun _ => []) (j := 0) hq (s0.tupT hx) (by omega) fun H4 x4 s4 hx4 => ?_
    exact k _ _ (s0.trans s4) (.ints hx4 (by simp only [List.length_append, List.length_singleton]; omega))
  · rw [eqv_tup] at cc
    have hc : c = [] := by
      by_cases e : c = []
      · exact e
      · rw [decide_eq_false e] at cc
        exact absurd rfl cc
    refine ⟨by show 1 ≤ sizeLine; decide, fun q hq => k _ _ (s0.trans (same_upd hq)) (.tup (SqT.of upd_same) (by decide) (fun y hy => ?_) fun e => ?_)⟩
    · rw [List.mem_singleton.mp hy]
      exact .inr ⟨true, rfl⟩
    · rw [hc] at e
      exact absurd e (by decide)
theorem ok_right (S : Src K mg "_law_right" sRight ["_law_jug_here"]) (B : Bl mg) (LC : LotC K C) (gL : mg "Lot" = some (.ref C))
    (CI : CalM P w K mg base CX0 5 C ["self", "letters", "members"] (spInit K C))
    (C1 : Cal P w K mg base CX0 1 "_law_pour" ["_law_jug_here", "_law_total"] spPour) (C2 : Cal P w K mg base CX0 2 "_law_taken" ["_law_jug_here", "_law_items"] (spTaken2 K))
    (C3 : Cal P w K mg base CX0 3 "_law_members" ["_law_jug_here", "_law_letters", "_law_total", "_law_most"] (spMem K)) (C4 : Cal P w K mg base CX0 1 "_law_is_free" ["_law_members_here", "_law_chosen"] (spFree K))
    (C5 : Cal P w K mg base CX0 1 "_law_sets" ["_law_letters"] (spLSets K)) (C6 : Cal P w K mg base CX0 5 "_law_told" ["_law_lot"] (spLTold PT K C)) (C7 : Cal P w K mg base CX0 5 "dimension" ["lot"] (spDimI PT K C))
    (C8 : Cal P w K mg base CX0 5 "is_free_set" ["lot", "value"] (spIFS PT K C)) :
    Cal P w K mg base CX0 7 "_law_right" ["_law_jug_here"] (spRight PT K) := by
  obtain ⟨fI, fdI, FI, mkI, bI⟩ := CI
  refine cal_of S scRight (fun vs H Q E h => ?_) (fun f cdv A outer s H vs Q E hr h => ?_)
  · obtain ⟨j, rfl, _⟩ := h
    rfl
  · obtain ⟨j, rfl, hj, ht, q⟩ := h
    refine ⟨_, pss_cons (ps_set (i := 1) scRight.nd rfl (Or.inl rfl) (pe_op op_add pe_int (pe_cal C1 (hr.mono (by decide)) pass0 (pa_cons (pv 0) (pa_cons pe_int pa_nil)))))
      (pss_cons (ps_set (i := 2) scRight.nd rfl (Or.inr rfl) (pe_cal C3 (hr.mono (by decide)) pass0 (pa_cons (pv 0) (pa_cons (pv 1) (pa_cons pe_int (pa_cons (pe_cal C2 (hr.mono (by decide)) pass0 (pa_cons (pv 0) (pa_cons (pe_lst (pa_cons pe_int (pa_cons pe_int (pa_cons pe_int pa_nil)))) pa_nil))) pa_nil))))))
      (pss_cons (ps_par (i := 3) (j := 4) rfl scRight.nd rfl rfl (by decide) rfl rfl (pa_cons (pe_make mkI FI hr (by rfl) gL bI .nil pass0 (pa_cons (pv 1) (pa_cons (pv 2) pa_nil)))
          (pa_cons (pe_lc (own := [("_law_chosen", 10)]) (g := gName 10) (tt := ttRight K) (te := tVar 10) rfl scRight.nd (pi_list (pe_cal C5 (hr.mono (by decide)) pass0 (pa_cons (pv 1) pa_nil)))
            (blkOk_by (N := NR) (sc := defScope sRight) (by decide +kernel))
            (fun _ _ _ _ _ => pg_name (i := 10) scRight.nd rfl (Or.inl rfl))
            (fun _ _ _ _ _ => pts_one (by exact pt_val (pe_cal C4 (hr.mono (by decide)) pass0 (pa_cons (pv 2) (pa_cons (pv 10) pa_nil)))))
            (fun _ _ _ _ _ => by exact pv 10)) pa_nil)) (by rfl))
      (pss_cons (ps_set (i := 5) scRight.nd rfl (Or.inl rfl) (pe_callB (cr_max rfl) (by rfl) B.max (by decide +kernel) (pa_cons (pe_op op_cat (pe_lc (own := [("_law_chosen", 10)]) (g := gName 10) (te := teLen K 10) rfl scRight.nd (pi_list (pv 4))
            (blkOk_by (N := NR) (sc := defScope sRight) (by decide +kernel))
            (fun _ _ _ _ _ => pg_name (i := 10) scRight.nd rfl (Or.inl rfl)) (fun _ _ _ _ _ => pts_nil)
            (fun _ _ _ _ _ => by exact pe_callB call_len_seq (by rfl) B.len PySem.boot_len (pa_cons (pv 10) pa_nil))) (pe_lst (pa_cons (pe_un un_neg pe_int) pa_nil))) pa_nil)))
      (pss_cons (ps_set (i := 6) scRight.nd rfl (Or.inl rfl) (pe_cal C6 (hr.mono (by decide)) pass0 (pa_cons (pv 3) pa_nil)))
      (pss_cons (ps_if (pt_cmpR op_ne (pe_cal C7 (hr.mono (by decide)) pass0 (pa_cons (pv 3) pa_nil)) (pv 5) (nomark _)) (pss_one (ps_ret pe_bl)) pss_nil)
      (pss_cons (ps_if (pt_cmpR op_eq (pv 5) (pe_un un_neg pe_int) (nomark _)) (pss_one (ps_ret (pe_and (pe_cmpR (op_eqD hr.units) (pv 6) (pe_tup (pa_cons pe_str (pa_cons (pe_tup (pa_cons pe_str pa_nil)) pa_nil))) (nomark _))
          (pe_and (pe_cmpR op_eq (pe_callB call_len_seq (by rfl) B.len PySem.boot_len (pa_cons (pv 2) pa_nil)) pe_int (nomark _)) (pe_one (pe_cmpR op_eq (pe_callB (cr_sumT rfl) (by rfl) B.sum (by decide +kernel) (pa_cons (pe_ix ix_tup (pv 2) pe_int (fun _ _ => rfl)) pa_nil)) pe_int (nomark _))))))) pss_nil)
      (pss_cons (ps_if (PW.pt (pw_or (pt_cmpR (op_notInD (units65 hr)) (pv 6) (pv 4) (by rfl)) (pw_or (pt_cmpR op_ne (pe_callB call_len_seq (by rfl) B.len PySem.boot_len (pa_cons (pv 6) pa_nil)) (pv 5) (nomark _))
          (pw_or1 (pt_not (pt_val (pe_cal C8 (hr.mono (by decide)) pass0 (pa_cons (pv 3) (pa_cons (pv 6) pa_nil))))))))) (pss_one (ps_ret pe_bl)) pss_nil)
      (pss_cons (ps_set (i := 7) scRight.nd rfl (Or.inl rfl) (pe_lst (pa_cons pe_non (pa_cons pe_int (pa_cons (pe_callTy call_list_of (by rfl) B.list (by decide +kernel) (pa_cons (pv 6) pa_nil))
          (pa_cons (pe_op op_catA (pv 6) (pe_tup (pa_cons pe_int pa_nil))) (pa_cons (pe_slice sl_tupA (pv 6) (po_some pe_int) po_none) (pa_cons (pe_op op_catA (pv 6) (pe_tup (pa_cons (pv 1) pa_nil)))
          (pa_cons (pe_ifExp (pt_cmpR (op_neD hr.units) (pv 6) (pe_tup pa_nil) (nomark _)) (pe_op op_catA (pv 6) (pe_tup (pa_cons (pe_ix ix_tup (pv 6) (pe_un un_neg pe_int) (fun _ _ => rfl)) pa_nil))) (pe_tup (pa_cons pe_bl pa_nil)))
          (pa_cons (pe_tup (pa_cons pe_int (pa_cons pe_int pa_nil))) (pa_cons pe_str (pa_cons pe_dnewK pa_nil))))))))))))
      (pss_cons (ps_set (i := 7) scRight.nd rfl (Or.inl rfl) (pe_op op_cat (pe_op op_cat (pv 7) (pe_slice sl_list (pe_cal C5 (hr.mono (by decide)) pass0 (pa_cons (pv 1) pa_nil)) po_none (po_some pe_int)))
          (pe_lst (pa_cons (pe_revT (pv 6)) (pa_cons (pe_tup (pa_cons (pe_op op_sub pe_int pe_int) pa_nil)) (pa_cons (pe_tupRg rfl (by rfl) B.tuple (prg_1 (by rfl) B.range (pv 1))) pa_nil))))))
      (pss_cons (ps_for PassesOwn.never rfl (pi_list (pv 7)) (pg_name (i := 8) scRight.nd rfl (Or.inl rfl))
          (pss_cons (ps_set (i := 9) scRight.nd rfl (Or.inl rfl) (pe_and (pe_callB call_isi (by rfl) B.isinstance (by decide +kernel) (pa_cons (pv 8) (pa_cons (pe_bltn (v := .ty "tuple") (by rfl) B.tuple (by decide +kernel) rfl) pa_nil)))
            (pe_and (pe_cmpR op_eq (pe_callB call_len_seq (by rfl) B.len PySem.boot_len (pa_cons (pv 8) pa_nil)) (pv 5) (nomark _)) (pe_one (pe_cmpR (op_inD (units65 hr)) (pv 8) (pv 4) (by rfl))))))
          (pss_one (ps_if (pt_cmpR op_ne (pe_cal C8 (hr.mono (by decide)) pass0 (pa_cons (pv 3) (pa_cons (pv 8) pa_nil))) (pv 9) (nomark _)) (pss_one (ps_ret pe_bl)) pss_nil))))
      (pss_one (ps_ret pe_bl)))))))))))), ?_⟩
    refine ⟨_, rfl, j, 8, rfl, hj, by decide, by decide, fun r0 H1 hr0 hr8 s1 => ⟨_, _, rfl, rfl, ?_⟩⟩
    obtain ⟨n, hn⟩ : ∃ n : Nat, (1 : Int) + r0 = (n : Int) := ⟨(1 + r0).toNat, by omega⟩
    have hn1 : 1 ≤ n := by omega
    have hn8 : n ≤ 8 := by omega
    have en : V.int (1 + r0) = V.int (n : Int) := by rw [hn]
    show gName 1 (V.int (1 + r0)) _ _ _
    rw [en]
    have hj1 := s1.jug'
    refine ⟨_, rfl, _, rfl, _, rfl, by show 3 ≤ sizeLine; decide, fun a ha => ?_⟩
    have haj : a ≠ j := by
      obtain ⟨x, y, z, e⟩ := hj1
      exact Ne.symm (ne_of_none e ha)
    have s2 := s1.same (same_upd (o := .lst [.int 1, .int 2, .int 3]) ha)
    refine ⟨j, a, [1, 2, 3], rfl, s2.jug', haj, upd_same, by decide, by decide, fun k H2 hk s3 => ?_⟩
    have hk13 : 1 ≤ k ∧ k ≤ 3 := by
      rcases List.mem_cons.mp hk with e | hk
      · omega
      · rcases List.mem_cons.mp hk with e | hk
        · omega
        · have := List.mem_singleton.mp hk
          omega
    refine ⟨j, n, k, rfl, s3.jug', hn1, hn8, hk13.1, hk13.2, fun H3 M L s4 hM hR hA => ?_⟩
    have hT3 : GxR.TabG H3 PT := tab_sj ((s2.trans s3).trans s4) ht
    refine ⟨_, rfl, _, rfl, fun xl dx hx hdx hne => lot_made2 hM hR hA hx hdx hne fun H4 ms s5 hL hpm => ?_⟩
    have hM4 := s5 _ _ hM
    have hR4 := hR.same s5
    have lenL : L.length ≤ 24 := by
      have := hA.len
      rw [List.length_map] at this
      exact this
    have hrl : ∀ c ∈ rowsOf L, c.length ≤ 1000 := fun c hc => by
      rw [(hA.rows c hc).1]
      omega
    have hsl : ∀ c ∈ setsL n, c.length ≤ 1000 := fun c hc => by
      have := setsL_in n c hc
      omega
    refine ⟨_, rfl, n, rfl, hn8, fun H5 p as s6 hp0 hp hRs => ⟨p, rfl, ⟨_, SqL.of hp⟩, fun D hD => lc_it (walk_list (xs := as.map V.ref)) (PvR K H5 D fun i => ((setsL n).take i).filter (isFree (rowsOf L))) (pvr_zero hD rfl) (fun i H' _ v => v.1.seq (SqL.of hp)) ?_ ?_⟩⟩
    · rintro i z _ H6 hi v6 ⟨rfl, hz⟩
      obtain ⟨a1, rfl, e1⟩ := ref_get hz
      obtain ⟨c, em, hq⟩ := hRs.get e1
      have s46 := s6.trans v6.1
      have hM6 : SqT K H6 M ((L.map (·.1)).map V.ref) := by
        rw [refs_map]
        exact SqT.of (s46 _ _ hM4)
      have hFl : (((setsL n).take i).filter (isFree (rowsOf L))).length < sizeLine := by
        have h4 := List.length_filter_le (isFree (rowsOf L)) ((setsL n).take i)
        have h5 := setsL_len n
        have h7 := pow_256 hn8
        rw [List.length_take] at h4
        exact Nat.lt_of_le_of_lt (show _ ≤ 256 by omega) (by decide)
      refine ⟨rfl, _, rfl, _, rfl, M, a1, L.map (·.1), rowsOf L, c, rfl, hM6, (hR4.same s46).rows, v6.1.tupT hq, by rw [List.length_map]; omega, hrl, fun H7 s7 => ⟨_, rfl, ?_⟩⟩
      refine ite2 (fun cc => ?_) (fun cc => ?_)
      · refine ⟨_, rfl, ?_⟩
        refine pvr_push (m := c) hD v6 s7 (s7.tupT (v6.1.tupT hq)) ?_ hFl
        rw [filter_take _ em, if_pos cc]
      · refine pvr_skip v6 s7 ?_
        rw [filter_take _ em, if_neg cc, List.append_nil]
    · intro H6 v6
      obtain ⟨s7, bs, hD6, hB6⟩ := v6
      have hF6 : Rows K H6 bs (freeL n (rowsOf L)) := by
        have h7 : Rows K H6 bs (((setsL n).take (as.map V.ref).length).filter (isFree (rowsOf L))) := hB6
        rw [List.length_map, hRs.length, List.take_length] at h7
        exact h7
      have s46 := s6.trans s7
      have hL6 : LotAt K H6 xl C n ms := by
        obtain ⟨dx', vs', M', as', h1, h2, h3, h4, h5, h6⟩ := hL
        exact ⟨dx', vs', M', as', s46 _ _ h1, s46 _ _ h2, h3, h4, s46.tupT h5, h6.same s46⟩
      have hM6 := s46 _ _ hM4
      have hR6 := hR4.same s46
      have hT6 : GxR.TabG H6 PT := tab_same (s5.trans s46) hT3
      have lenF : (freeL n (rowsOf L)).length ≤ 256 := by
        have h4 := List.length_filter_le (isFree (rowsOf L)) (setsL n)
        have h5 := setsL_len n
        have h7 := pow_256 hn8
        unfold freeL
        omega
      refine ⟨_, _, rfl, ?_⟩
      refine ⟨_, rfl, D, rfl, ⟨_, SqL.of hD6⟩, fun D2 hD2 => lc_it (walk_list (xs := bs.map V.ref)) (PvS H6 D2 fun i => some (.int (((freeL n (rowsOf L)).getD i []).length : Nat))) (pvs_zero hD2) (fun i H' _ v => v.1.seq (SqL.of hD6)) ?_ ?_⟩
      · rintro i z _ H7 hi v7 ⟨rfl, hz⟩
        obtain ⟨a1, rfl, e1⟩ := ref_get hz
        obtain ⟨c, em, hq⟩ := hF6.get e1
        have hi2 : i < (freeL n (rowsOf L)).length := (List.getElem?_eq_some_iff.mp em).1
        refine ⟨rfl, _, rfl, a1, _, rfl, .inr (v7.1.tupT hq), ?_⟩
        refine pvs_push hD2 v7 (Same.refl _) ?_ (Nat.lt_of_lt_of_le (Nat.lt_of_lt_of_le hi2 lenF) (by decide))
        rw [List.getD_eq_getElem?_getD, em, List.length_map] <;> rfl
      · intro H7 v7
        have s67 := v7.1
        have hD27 : H7 D2 = some (.lst ((freeL n (rowsOf L)).map fun c => V.int (c.length : Nat))) := by
          rw [v7.2, List.length_map, hF6.length, fm_items (fun c : List Int => V.int (c.length : Nat)) (freeL n (rowsOf L)) _ (fun i m e => by rw [List.getD_eq_getElem?_getD, e] <;> rfl)]
        refine ⟨1, rfl, by show 1 ≤ sizeLine; decide, fun z hz => ⟨D2, z, _, _, rfl, rfl, same_upd hz _ _ hD27, upd_same, ?_, fun q1 hq1 => ?_⟩⟩
        · rw [List.length_map]
          exact Nat.le_trans (Nat.add_le_add lenF (Nat.le_refl 1)) (by decide)
        have s78 : Same H7 (upd (upd H7 z (.lst [.int (-1)])) q1 (.lst ((freeL n (rowsOf L)).map (fun c => V.int (c.length : Nat)) ++ [.int (-1)]))) := (same_upd hz).trans (same_upd hq1)
        refine ⟨q1, (freeL n (rowsOf L)).map (fun c => (c.length : Int)) ++ [-1], rfl, SqL.of ?_, ?_, fun m hm1 hm2 => ?_⟩
        · rw [upd_same, List.map_append, List.map_map]
          rfl
        · rw [List.length_append]
          exact Nat.lt_of_lt_of_le (by decide : 0 < 1) (Nat.le_add_left _ _)
        have hdue : IsDue n (rowsOf L) m := ⟨hm1, hm2⟩
        obtain ⟨H8, eH8⟩ : ∃ H8, H8 = upd (upd H7 z (.lst [.int (-1)])) q1 (.lst ((freeL n (rowsOf L)).map (fun c => V.int (c.length : Nat)) ++ [.int (-1)])) := ⟨_, rfl⟩
        rw [← eH8] at s78 ⊢
        clear eH8
        have s68 := s67.trans s78
        have hD8 : H8 D = some (.lst (bs.map V.ref)) := s68 _ _ hD6
        have hF8 := hF6.same s68
        have hT8 := tab_same s68 hT6
        have hL8 := hL6.st (ST.of_same s68 hT6)
        have hM8 := s68 _ _ hM6
        have hR8 := hR6.same s68
        have k8 : Kp j H H8 := ((Kp.sj ((s2.trans s3).trans s4)).trans (.sm (s5.trans s46))).trans (.sm s68)
        have hLD : LotD n ms := hA.lotD hpm
        refine ⟨_, rfl, xl, n, ms, rfl, hL8, hLD, hT8, fun hall H9 x t s89 h1 h2 => ?_, fun hall => ⟨fun hno => ?_, fun c x H9 hb s89 hx9 => ?_⟩⟩
        · have hm : m = -1 := by
            by_cases e : m = -1
            · exact e
            · obtain ⟨c, b, _⟩ := due_some hdue e
              exact absurd hall (by rw [isAll_perm hpm, b.unique_all]; decide)
          subst hm
          have t89 := ST.of_same s89 hT8
          refine ⟨_, rfl, xl, n, ms, rfl, hL8.st t89, hLD, tab_same s89 hT8, fun _ H10 s90 => ?_, fun c H10 b _ => absurd hall (by rw [b.unique_all]; decide)⟩
          refine ⟨_, rfl, rfl, _, rfl, ite2 (fun cc => absurd cc (by decide)) fun _ => ?_⟩
          refine ⟨_, rfl, _, rfl, rfl, _, rfl, ite2 (fun _ => ?_) (fun cc => absurd (by decide) cc)⟩
          obtain ⟨m0, em0, hz0, _⟩ := nil_or_all hA (all_none (by rw [← isAll_perm hpm]; exact hall) [])
          obtain ⟨p0, eL⟩ : ∃ p0, L = [p0] := by
            have : L.length = 1 := by
              have h5 := congrArg List.length em0
              unfold rowsOf at h5
              rw [List.length_map] at h5
              exact h5
            exact List.length_eq_one_iff.mp this
          subst eL
          have ep : p0.2 = m0 := by
            have h5 : [p0.2] = [m0] := em0
            exact (List.cons.inj h5).1
          have s10 := t89.trans s90
          refine ⟨_, rfl, by show 1 ≤ sizeLine; decide, fun u hu => ⟨by show 2 ≤ sizeLine; decide, fun v hv => ?_⟩⟩
          have su : Same H10 (upd (upd H10 u (.tup [.str "all"])) v (.tup [.str "refused", .ref u])) := (same_upd hu).trans (same_upd hv)
          have h1' := su _ _ (s90.keep h1 (fun _ z => nomatch z))
          have h2' := su _ _ (s90.keep h2 (fun _ z => nomatch z))
          have hvu : v ≠ u := fun e => by rw [e, upd_same] at hv; cases hv
          refine ⟨_, _, dp_ref h1' h2', dp_ref (t := u) upd_same ((same_upd hv) _ _ upd_same), shaped_ref, shaped_ref, _, rfl, ite2 (fun _ => ?_) (fun cc => absurd eqv_ref cc)⟩
          have hM10 := su _ _ (s10.keep hM8 (fun _ z => nomatch z))
          have hR10 : SqT K (upd (upd H10 u (.tup [.str "all"])) v (.tup [.str "refused", .ref u])) p0.1 (p0.2.map V.int) := su.tupT (SqT.of (s10.keep (hR8 p0 List.mem_cons_self) (fun _ z => nomatch z)))
          refine ⟨_, rfl, M, refsOf [p0], rfl, .inr (SqT.of hM10), rfl, _, rfl, ite2 (fun _ => ?_) (fun cc => absurd (by rw [dV]; rfl) cc)⟩
          refine ⟨_, rfl, M, refsOf [p0], 0, .ref p0.1, rfl, rfl, SqT.of hM10, rfl, p0.1, p0.2, rfl, hR10, rfl, ?_⟩
          rw [dV, ep, sum_zero hz0]
          exact q _ (tab_same su s90.tab') ((k8.trans (.st s10)).trans (.sm su))
        · have h0 := hno [] (nil_mem n)
          rw [isFree_perm hpm] at h0
          obtain ⟨_, _, _, h3⟩ := nil_or_all hA h0
          rw [isAll_perm hpm, h3] at hall
          cases hall
        · have hbL : Best n (rowsOf L) c := best_perm hpm hb
          have hcm : (c.length : Int) = m := due_best hdue hbL
          subst hcm
          refine ⟨_, rfl, xl, n, ms, rfl, hL8.st s89, hLD, s89.tab', fun hno _ _ => absurd hb.free (by rw [hno c hb.mem]; decide), fun c2 H10 b2 s90 => ?_⟩
          have e2 := b2.len hb
          refine ⟨_, rfl, rfl, _, rfl, ite2 (fun cc => ?_) fun _ => ?_⟩
          · rw [e2] at cc
            simp at cc
          refine ⟨_, rfl, _, rfl, rfl, _, rfl, ite2 (fun cc => ?_) (fun _ => ?_)⟩
          · rw [dV] at cc
            have := of_decide_eq_true cc
            omega
          have s80 := s89.trans s90
          have hx10 := s90.tupT hx9
          have hD10 := s80.keep hD8 (fun _ z => nomatch z)
          have hF10 := s80.rows hF8
          have hcF : c ∈ freeL n (rowsOf L) := mem_freeL.mpr ⟨hb.mem, hbL.free⟩
          have hcl : c.length ≤ 8 := Nat.le_trans (setsL_in n c hb.mem) hn8
          have hAll : isAll ms = false := hall
          refine ⟨_, rfl, _, rfl, _, _, dp_tup hx10, .lst (SqL.of hD10) (dp_rows hF10), shaped_tup _, shaped_rows _, _, rfl, ite2 (fun cc => ?_) (fun _ => ?_)⟩
          · rw [any_rows, decide_eq_true hcF] at cc
            cases cc
          refine ⟨_, rfl, x, _, rfl, .inr hx10, _, rfl, rfl, _, rfl, ite2 (fun cc => ?_) (fun _ => ?_)⟩
          · rw [List.length_map] at cc
            simp at cc
          refine ⟨_, rfl, _, rfl, xl, .ref x, n, ms, c, rfl, hL8.st s80, hLD, hAll, hb, s90.tab', .inr ⟨x, _, rfl, hx10, sqT_ty hx10, by rw [List.length_map]; omega, fun y hy => ?_, fun b H11 hbb s01 => ?_⟩⟩
          · obtain ⟨i, _, rfl⟩ := List.mem_map.mp hy
            exact .inl ⟨i, rfl⟩
          have eb := hbb.mpr ⟨c, rfl, hb⟩
          subst eb
          refine ⟨_, rfl, iteF ?_⟩
          have s81 := s80.trans s01
          have hx11 := s01.tupT hx10
          refine ⟨_, rfl, x, _, rfl, .inr hx11, fun a1 ha1 => ?_⟩
          have t1 := same_upd (o := .lst (c.map V.int)) ha1
          have hc1000 : c.length ≤ 1000 := by omega
          refine ⟨_, rfl, by show 1 ≤ sizeLine; decide, fun a2 ha2 => cat_step (D := D) (H1 := H) (F := fun _ => []) (j := 0) ha2 (t1.tupT hx11) hc1000 fun H12 x4 t2 hx4 => ?_⟩
          have t12 := t1.trans t2
          refine ⟨_, rfl, 1, rfl, ?_⟩
          refine npart ?_
          refine tail_step (t12.tupT hx11) fun H13 x5 t3 hx5 => ?_
          have t13 := t12.trans t3
          refine ⟨_, rfl, _, rfl, by show 1 ≤ sizeLine; decide, fun a3 ha3 => cat_step (D := D) (H1 := H) (F := fun _ => []) (j := 0) ha3 (t13.tupT hx11) hc1000 fun H14 x6 t4 hx6 => ?_⟩
          have t14 := t13.trans t4
          refine last_step (x := x) (by rfl) (t14.tupT hx11) hcl fun H15 x7 t5 v7 => ?_
          have t15 := t14.trans t5
          refine ⟨by show 2 ≤ sizeLine; decide, fun x8 hx8 x9 hx9d => ?_⟩
          have t6 := same_upd (o := .tup [.int 0, .int 0]) hx8
          have t7 := same_upd (o := .dK []) hx9d
          refine ⟨by show 10 ≤ sizeLine; decide, fun vl hvl => ?_⟩
          have t8 := same_upd (o := .lst [.non, .int 0, .ref a1, .ref x4, .ref x5, .ref x6, .ref x7, .ref x8, .str "", .ref x9]) hvl
          have t58 := (t6.trans t7).trans t8
          have t48 := t5.trans t58
          have t38 := t4.trans t48
          have t28 := t3.trans t38
          obtain ⟨H16, eH16⟩ : ∃ H16, H16 = upd (upd (upd H15 x8 (.tup [.int 0, .int 0])) x9 (.dK [])) vl (.lst [.non, .int 0, .ref a1, .ref x4, .ref x5, .ref x6, .ref x7, .ref x8, .str "", .ref x9]) := ⟨_, rfl⟩
          have hvl16 : H16 vl = some (.lst [.non, .int 0, .ref a1, .ref x4, .ref x5, .ref x6, .ref x7, .ref x8, .str "", .ref x9]) := by rw [eH16]; exact upd_same
          have ok1 : ∀ v ∈ [V.non, .int 0, .ref a1, .ref x4, .ref x5, .ref x6, .ref x7, .ref x8, .str "", .ref x9], VOk K (c.length : Int) H16 v := by
            rw [eH16]
            intro v hv
            simp only [List.mem_cons, List.not_mem_nil, or_false] at hv
            rcases hv with rfl | rfl | rfl | rfl | rfl | rfl | rfl | rfl | rfl | rfl
            · exact .non
            · exact .int _
            · exact .lst ((t2.trans t28) _ _ upd_same)
            · exact (VOk.ints hx4 (by rw [List.length_append, List.length_singleton]; omega)).same t28
            · exact (VOk.ints hx5 (by rw [List.length_drop]; omega)).same t38
            · exact (VOk.ints hx6 (by rw [List.length_append, List.length_singleton]; omega)).same t48
            · exact v7.same t58
            · exact (VOk.ints (c := [0, 0]) (SqT.of upd_same) (by decide)).same (t7.trans t8)
            · exact .str _
            · exact .dct (t8 _ _ upd_same)
          have u16 := t15.trans t58
          rw [← eH16] at u16 t8 t58 t48 t38 t28 ⊢
          clear eH16 t6 t7
          refine ⟨_, rfl, _, rfl, n, rfl, hn8, fun H17 p2 as2 w1 _ hp2 hR2 => npart ⟨64, rfl, ?_⟩⟩
          refine ⟨p2, as2.map .ref, rfl, SqL.of hp2, fun p3 hp3 => ?_⟩
          have w2 := w1.trans (same_upd (o := .lst (cutV (as2.map V.ref) none (some 64))) hp3)
          have l2 : as2.length ≤ 256 := by
            rw [hR2.length, setsL_len]
            exact pow_256 hn8
          have l3 := cutV_length (as2.map V.ref) none (some 64)
          rw [List.length_map] at l3
          refine ⟨vl, p3, _, _, rfl, rfl, w2 _ _ hvl16, upd_same, ?_, fun p4 hp4 => ?_⟩
          · show 10 + _ ≤ _
            exact Nat.le_trans (Nat.add_le_add_left (Nat.le_trans l3 l2) 10) (by decide)
          have w3 := w2.trans (same_upd (o := .lst ([.non, .int 0, .ref a1, .ref x4, .ref x5, .ref x6, .ref x7, .ref x8, .str "", .ref x9] ++ cutV (as2.map V.ref) none (some 64))) hp4)
          have hx17 := w3.tupT (u16.tupT hx11)
          refine ⟨_, rfl, x, c, rfl, hx17, fun r rs hr0 hrl2 => ?_⟩
          have w4 := same_upd (o := .tup (rs.map V.int)) hr0
          refine ⟨_, _, rfl, rfl, by show 1 ≤ sizeLine; decide, fun o1 ho1 => ?_⟩
          have w5 := same_upd (o := .tup [.int (0 - 1)]) ho1
          refine ⟨_, rfl, n, rfl, RgOk.of_le (by omega) (by omega) (by omega) (by omega), fun g hg => ?_⟩
          have w6 := same_upd (o := .tup (rgV 0 (n : Int))) hg
          refine ⟨by show 3 ≤ sizeLine; decide, fun l5 hl5 => ?_⟩
          have w7 := same_upd (o := .lst [.ref r, .ref o1, .ref g]) hl5
          have w57 := w5.trans (w6.trans w7)
          have w47 := w4.trans w57
          refine ⟨p4, l5, _, _, rfl, rfl, w47 _ _ upd_same, upd_same, ?_, fun vv hvv => ?_⟩
          · rw [List.length_append]
            show 10 + _ + 3 ≤ _
            exact Nat.le_trans (Nat.add_le_add_right (Nat.add_le_add_left (Nat.le_trans l3 l2) 10) 3) (by decide)
          have w8 := same_upd (o := .lst ([.non, .int 0, .ref a1, .ref x4, .ref x5, .ref x6, .ref x7, .ref x8, .str "", .ref x9] ++ cutV (as2.map V.ref) none (some 64) ++ [.ref r, .ref o1, .ref g])) hvv
          obtain ⟨H18, eH18⟩ : ∃ H18, H18 = upd (upd (upd (upd (upd (upd (upd H17 p3 (.lst (cutV (as2.map V.ref) none (some 64)))) p4 (.lst ([.non, .int 0, .ref a1, .ref x4, .ref x5, .ref x6, .ref x7, .ref x8, .str "", .ref x9] ++ cutV (as2.map V.ref) none (some 64)))) r (.tup (rs.map V.int))) o1 (.tup [.int (0 - 1)])) g (.tup (rgV 0 (n : Int)))) l5 (.lst [.ref r, .ref o1, .ref g])) vv (.lst ([.non, .int 0, .ref a1, .ref x4, .ref x5, .ref x6, .ref x7, .ref x8, .str "", .ref x9] ++ cutV (as2.map V.ref) none (some 64) ++ [.ref r, .ref o1, .ref g])) := ⟨_, rfl⟩
          obtain ⟨xs, exs⟩ : ∃ xs, xs = [.non, .int 0, .ref a1, .ref x4, .ref x5, .ref x6, .ref x7, .ref x8, .str "", .ref x9] ++ cutV (as2.map V.ref) none (some 64) ++ [V.ref r, .ref o1, .ref g] := ⟨_, rfl⟩
          have w48 := w47.trans w8
          have w18 : Same H16 H18 := by
            rw [eH18]
            exact w3.trans w48
          have okx : ∀ v ∈ xs, VOk K (c.length : Int) H18 v := by
            rw [eH18]
            intro v hv
            rw [exs, List.mem_append, List.mem_append] at hv
            rcases hv with (hv | hv) | hv
            · exact ((ok1 v hv).same w3).same w48
            · refine VOk.same w48 (VOk.same ?_ (hR2.all hsl (cut_sub hv)))
              exact (same_upd hp3).trans (same_upd hp4)
            · simp only [List.mem_cons, List.not_mem_nil, or_false] at hv
              rcases hv with rfl | rfl | rfl
              · exact (VOk.ints (SqT.of upd_same) (by omega)).same (w57.trans w8)
              · exact (VOk.ints (c := [-1]) (SqT.of upd_same) (by decide)).same ((w6.trans w7).trans w8)
              · exact (rg_ok hn8 upd_same).same (w7.trans w8)
          have hvv18 : H18 vv = some (.lst xs) := by
            rw [eH18, exs]
            exact upd_same
          have v18 : ST PT H8 H18 := (s81.same u16).same w18
          rw [← eH18]
          clear eH18
          have t18 := v18.tab'
          have hD18 := v18.keep hD8 (fun _ z => nomatch z)
          have hF18 := v18.rows hF8
          have hL18 := hL8.st v18
          refine ⟨_, rfl, vv, rfl, ⟨_, SqL.of hvv18⟩, for_list (xs := xs) (fun i σ H' => ∃ v8 v9, σ = [some (.ref j), some (.int (n : Int)), some (.ref M), some (.ref xl), some (.ref D), some (.int (c.length : Int)), some (.ref x), some (.ref vv), v8, v9, none] ∧ ST PT H18 H')
            ⟨none, none, rfl, .refl t18⟩ (fun i σ H' _ ⟨_, _, _, si⟩ => SqL.of (si.keep hvv18 (fun _ z => nomatch z))) ?_ (fun σ H' ⟨_, _, _, si⟩ => q _ si.tab' (k8.trans (.st (v18.trans si))))⟩
          rintro i v σ H19 hv ⟨v8, v9, rfl, si⟩
          have hLi := hL18.st si
          have hDi := si.keep hD18 (fun _ z => nomatch z)
          have hFi := si.rows hF18
          cases (okx v (List.mem_of_getElem? hv)).st si with
          | non =>
              refine ⟨_, rfl, _, _, _, _, false, rfl, .ty "tuple", (.base .non), kit_ty (b := "tuple") (a := "NoneType") (by decide +kernel), _, rfl, iteF ?_⟩
              exact ⟨_, rfl, _, rfl, xl, _, n, ms, c, rfl, hLi, hLD, hAll, hb, si.tab', .inl ⟨"NoneType", (.base .non), by decide +kernel, _, rfl, rfl, _, rfl, ite2 (fun cc => absurd cc (by decide)) (fun _ => ⟨_, _, rfl, si⟩)⟩⟩
          | int i =>
              refine ⟨_, rfl, _, _, _, _, false, rfl, .ty "tuple", (.base (.int _)), kit_ty (b := "tuple") (a := "int") (by decide +kernel), _, rfl, iteF ?_⟩
              exact ⟨_, rfl, _, rfl, xl, _, n, ms, c, rfl, hLi, hLD, hAll, hb, si.tab', .inl ⟨"int", (.base (.int _)), by decide +kernel, _, rfl, rfl, _, rfl, ite2 (fun cc => absurd cc (by decide)) (fun _ => ⟨_, _, rfl, si⟩)⟩⟩
          | str z =>
              refine ⟨_, rfl, _, _, _, _, false, rfl, .ty "tuple", (.base (.str _)), kit_ty (b := "tuple") (a := "str") (by decide +kernel), _, rfl, iteF ?_⟩
              exact ⟨_, rfl, _, rfl, xl, _, n, ms, c, rfl, hLi, hLD, hAll, hb, si.tab', .inl ⟨"str", (.base (.str _)), by decide +kernel, _, rfl, rfl, _, rfl, ite2 (fun cc => absurd cc (by decide)) (fun _ => ⟨_, _, rfl, si⟩)⟩⟩
          | lst h =>
              refine ⟨_, rfl, _, _, _, _, false, rfl, .ty "tuple", (.base (.lst h)), kit_ty (b := "tuple") (a := "list") (by decide +kernel), _, rfl, iteF ?_⟩
              exact ⟨_, rfl, _, rfl, xl, _, n, ms, c, rfl, hLi, hLD, hAll, hb, si.tab', .inl ⟨"list", (.base (.lst h)), by decide +kernel, _, rfl, rfl, _, rfl, ite2 (fun cc => absurd cc (by decide)) (fun _ => ⟨_, _, rfl, si⟩)⟩⟩
          | dct h =>
              refine ⟨_, rfl, _, _, _, _, false, rfl, .ty "tuple", (.base (.dK h)), kit_ty (b := "tuple") (a := "dict") (by decide +kernel), _, rfl, iteF ?_⟩
              exact ⟨_, rfl, _, rfl, xl, _, n, ms, c, rfl, hLi, hLD, hAll, hb, si.tab', .inl ⟨"dict", (.base (.dK h)), by decide +kernel, _, rfl, rfl, _, rfl, ite2 (fun cc => absurd cc (by decide)) (fun _ => ⟨_, _, rfl, si⟩)⟩⟩
          | @tup y ys h hl hib hi =>
              refine ⟨_, rfl, _, _, _, _, true, rfl, .ty "tuple", sqT_ty h, kit_ty (by decide +kernel), _, rfl, iteT ?_⟩
              refine ⟨_, rfl, y, ys, rfl, .inr h, _, rfl, rfl, _, rfl, ite2 (fun cc => ?_) (fun cc => ?_)⟩
              · rw [dV] at cc
                obtain ⟨c1, rfl⟩ := hi (of_decide_eq_true cc)
                rw [List.length_map] at cc
                have hc1 := of_decide_eq_true cc
                refine ⟨_, rfl, _, rfl, _, _, dp_tup h, .lst (SqL.of hDi) (dp_rows hFi), shaped_tup _, shaped_rows _, ?_⟩
                refine ⟨_, rfl, _, rfl, xl, _, n, ms, c, rfl, hLi, hLD, hAll, hb, si.tab', .inr ⟨y, _, rfl, h, sqT_ty h, hl, hib, fun b H20 hbb sj => ⟨_, rfl, rfl, _, rfl, ite2 (fun cc2 => ?_) (fun _ => ⟨_, _, rfl, si.trans sj⟩)⟩⟩⟩
                rw [any_rows] at cc2
                have eb : b = decide (c1 ∈ freeL n (rowsOf L)) := by
                  rw [Bool.eq_iff_iff, hbb, decide_eq_true_iff]
                  constructor
                  · rintro ⟨c3, e3, b3⟩
                    have e4 := (List.map_inj_right fun x y h => V.int.inj h).mp e3
                    rw [e4]
                    exact mem_freeL.mpr ⟨b3.mem, by rw [← isFree_perm hpm]; exact b3.free⟩
                  · intro hm
                    exact ⟨c1, rfl, best_perm hpm.symm ((judge hdue (by omega)).mpr ⟨hc1, hm⟩)⟩
                rw [eb] at cc2
                simp at cc2
              · rw [dV] at cc
                refine ⟨_, rfl, _, rfl, xl, _, n, ms, c, rfl, hLi, hLD, hAll, hb, si.tab', .inr ⟨y, _, rfl, h, sqT_ty h, hl, hib, fun b H20 hbb sj => ⟨_, rfl, rfl, _, rfl, ite2 (fun cc2 => ?_) (fun _ => ⟨_, _, rfl, si.trans sj⟩)⟩⟩⟩
                have eb : b = false := by
                  cases e : b with
                  | false => rfl
                  | true =>
                    obtain ⟨c3, e3, b3⟩ := hbb.mp e
                    refine absurd (decide_eq_true ?_) cc
                    rw [e3, List.length_map, b3.len hb]
                rw [eb] at cc2
                exact absurd cc2 (by decide)
end
end K14

set_option maxHeartbeats 4000000
/-! free_set where nothing is refused; law -/
namespace K14
open PySem PySem.Spec PyProof.Rows L2
abbrev sLaw : Stmt := top 70
def spFS0 (P : Addr) (K : PySem.W.Frag) (C : Addr) : Sp := fun vs H Q _ => ∃ (a : Addr) (n : Nat) (ms : List (List Int)) (d : List Int), vs = [.ref a] ∧ LotAt K H a C n ms ∧ LotD n ms ∧ GxR.TabG H P ∧ isAll ms = false ∧ Best n ms d ∧
  ∀ c x H', Best n ms c → ST P H H' → SqT K H' x (c.map V.int) → Q (.ref x) H'
def spLaw (P : Addr) (K : PySem.W.Frag) : Sp := fun vs H Q _ => ∃ (a : Addr) (ns : List Int), vs = [.ref a] ∧ SqL K H a (ns.map V.int) ∧ GxR.TabG H P ∧ ∀ H', Q (.bl true) H'
theorem seq_kp {K : PySem.W.Frag} {H H2 H3 : Hp} {a j : Addr} {xs : List V} (h : SqL K H a xs) (hj : H j = none) (s : Same H H2) (k : Kp j H2 H3) : SqL K H3 a xs := seqL_of h fun u z no => k a u (ne_of_none z hj) no (s a u z)
theorem turns_le (l : Int) : -(2 ^ 62) ≤ (if (if l < 3 then l else 3) > 1 then (if l < 3 then l else 3) else 1) ∧ (if (if l < 3 then l else 3) > 1 then (if l < 3 then l else 3) else 1) < 2 ^ 62 ∧ (if (if l < 3 then l else 3) > 1 then (if l < 3 then l else 3) else 1) ≤ 3 := by
  by_cases h : l < 3
  · rw [if_pos h]
    by_cases h2 : l > 1
    · rw [if_pos h2]
      omega
    · rw [if_neg h2]
      omega
  · rw [if_neg h, if_pos (by decide)]
    omega
/-! the three written lots -/
abbrev E4 : List (List Int) := [[1, 1, 0, 0], [0, 1, 1, 0], [0, 0, 1, 1]]
abbrev E2 : List (List Int) := [[2, 0], [0, 3]]
theorem anti4 : Anti 4 E4 := ⟨by decide, by decide, by decide +kernel, by decide +kernel, by decide +kernel, by decide⟩
theorem anti2 : Anti 2 E2 := ⟨by decide, by decide, by decide +kernel, by decide +kernel, by decide +kernel, by decide⟩
theorem anti3 : Anti 3 [] := ⟨by decide, by decide, by decide +kernel, by decide +kernel, by decide +kernel, by decide⟩
theorem best4 : Best 4 E4 [0, 2] := ⟨by decide +kernel, by decide +kernel, by decide +kernel⟩
theorem best2 : Best 2 E2 [] := ⟨by decide +kernel, by decide +kernel, by decide +kernel⟩
theorem best3 : Best 3 [] [0, 1, 2] := ⟨by decide +kernel, by decide +kernel, by decide +kernel⟩
theorem not4 : ¬ Best 4 E4 [0, 1] := fun b => absurd b.free (by decide +kernel)
theorem only3 : ∀ c ∈ setsL 3, 3 ≤ c.length → c = [0, 1, 2] := by decide +kernel
theorem is3 {c : List Int} (b : Best 3 [] c) : c = [0, 1, 2] := only3 c b.mem (b.max _ best3.mem best3.free)
section
variable {P : Program} {w : World} {K : PySem.W.Frag} {mg : Str → Option Value} {base : Heap} {PT C CR : Addr}
theorem ok_fs0 (S : Src K mg "free_set" sFS ["lot"]) (C1 : Cal P w K mg base CX0 2 "require_some_left" ["lot"] (spSome K C)) (C2 : Cal P w K mg base CX0 3 "free_set_in" ["lot"] (spFSet PT K C)) :
    Cal P w K mg base CX0 4 "free_set" ["lot"] (spFS0 PT K C) := by
  refine cal_of S scFS (fun vs H Q E h => ?_) (fun f cdv A outer s H vs Q E hr h => ?_)
  · obtain ⟨a, n, ms, d, rfl, _⟩ := h
    rfl
  · obtain ⟨a, n, ms, d, rfl, hL, hD, ht, hA, hb, q⟩ := h
    refine ⟨_, pss_cons (ps_expr (pe_cal C1 (hr.mono (by decide)) pass0 (pa_cons (pv 0) pa_nil))) (pss_one (ps_ret (pe_cal C2 hr pass0 (pa_cons (pv 0) pa_nil)))), ?_⟩
    refine ⟨_, rfl, a, n, ms, rfl, hL, hD, hA, ?_⟩
    exact ⟨_, rfl, a, n, ms, rfl, hL, hD.hi, hD.len, hD.short, ht, fun hno _ _ => absurd hb.free (by rw [hno d hb.mem]; decide), q⟩
theorem scLaw : FnScope ["_law_script", "_law_turn", "_law_edges", "_law_told_here"] ["_law_script"] (defScope sLaw) := ⟨rfl, rfl, rfl, by decide +kernel, rfl, by decide +kernel, by decide +kernel⟩
/-- a def of the text, its function object told ahead -/
theorem fn_src {N ps : List Str} {k : Nat} {x : Str} {st : Stmt} {sp : Sp} {f : Addr} {fd : FuncData} (F : FnP K x st f fd) (sc : FnScope N ps (defScope st)) (len : ∀ vs H Q E, sp vs H Q E → vs.length = ps.length)
    (hbody : ∀ (f : Addr) (cdv : Value) (A : Around) (outer : List Env) (s : Shared) (H : Hp) (vs : List V) (Q : VK) (E : XK), Room k (A.deeper (envOfC x (defScope st) s.heap.objs.size f cdv)) → sp vs H Q E →
      ∃ t, PSs (cxOf CX0 P w K mg base N x (defScope st) f cdv A outer s H E).nox (defBody st) t ∧ t { nx := fun _ H' => Q .non H', rt := Q } (start N vs) H) : FnOk P w K mg base CX0 (k + 1) f fd ps sp :=
  F.ok sc len fun cdv A outer s H vs Q E hr h => by
    obtain ⟨t, h1, h2⟩ := hbody f cdv A outer s H vs Q E hr h
    exact ⟨t, h1.nox, h2⟩
theorem ok_law {f : Addr} {fd : FuncData} (S : FnP K "law" sLaw f fd) (B : Bl mg) (LC : LotC K C) (gL : mg "Lot" = some (.ref C))
    (CI : CalM P w K mg base CX0 5 C ["self", "letters", "members"] (spInit K C))
    (C1 : Cal P w K mg base CX0 1 "_law_jug" ["_law_script", "_law_turn"] (spJug K)) (C2 : Cal P w K mg base CX0 7 "_law_right" ["_law_jug_here"] (spRight PT K))
    (C3 : Cal P w K mg base CX0 5 "is_free_set" ["lot", "value"] (spIFS PT K C)) (C4 : Cal P w K mg base CX0 4 "free_set" ["lot"] (spFS0 PT K C)) :
    FnOk P w K mg base CX0 8 f fd ["_law_script"] (spLaw PT K) := by
  obtain ⟨fI, fdI, FI, mkI, bI⟩ := CI
  refine fn_src S scLaw (fun vs H Q E h => ?_) (fun f cdv A outer s H vs Q E hr h => ?_)
  · obtain ⟨a, ns, rfl, _⟩ := h
    rfl
  · obtain ⟨a, ns, rfl, hS, ht, q⟩ := h
    refine ⟨_, pss_cons (ps_for PassesOwn.never rfl (pi_range1 rfl B.range (pa_cons (pe_callB (call_max2 rfl) (by rfl) B.max (by decide +kernel) (pa_cons pe_int (pa_cons (pe_callB (call_min2 rfl) (by rfl) B.min (by decide +kernel) (pa_cons pe_int
          (pa_cons (pe_callB call_len_seq (by rfl) B.len PySem.boot_len (pa_cons (pv 0) pa_nil)) pa_nil))) pa_nil))) pa_nil)) (pg_name (i := 1) scLaw.nd rfl (Or.inl rfl))
        (pss_one (ps_if (pt_not (pt_val (pe_cal C2 hr pass0 (pa_cons (pe_cal C1 (hr.mono (by decide)) pass0 (pa_cons (pv 0) (pa_cons (pv 1) pa_nil))) pa_nil)))) (pss_one (ps_ret pe_bl)) pss_nil)))
      (pss_cons (ps_set (i := 2) scLaw.nd rfl (Or.inl rfl) (pe_make mkI FI (hr.mono (by decide)) (by rfl) gL bI .nil pass0 (pa_cons pe_int (pa_cons (pe_tup (pa_cons (pe_tup (pa_cons pe_int (pa_cons pe_int (pa_cons pe_int (pa_cons pe_int pa_nil)))))
          (pa_cons (pe_tup (pa_cons pe_int (pa_cons pe_int (pa_cons pe_int (pa_cons pe_int pa_nil))))) (pa_cons (pe_tup (pa_cons pe_int (pa_cons pe_int (pa_cons pe_int (pa_cons pe_int pa_nil))))) pa_nil)))) pa_nil))))
      (pss_cons (ps_set (i := 3) scLaw.nd rfl (Or.inl rfl) (pe_lst (pa_cons (pe_cal C3 (hr.mono (by decide)) pass0 (pa_cons (pv 2) (pa_cons (pe_tup (pa_cons pe_int (pa_cons pe_int pa_nil))) pa_nil)))
          (pa_cons (pe_cal C3 (hr.mono (by decide)) pass0 (pa_cons (pv 2) (pa_cons (pe_tup (pa_cons pe_int (pa_cons pe_int pa_nil))) pa_nil)))
          (pa_cons (pe_cal C3 (hr.mono (by decide)) pass0 (pa_cons (pv 2) (pa_cons (pe_tup (pa_cons pe_int (pa_cons pe_bl pa_nil))) pa_nil)))
          (pa_cons (pe_cal C3 (hr.mono (by decide)) pass0 (pa_cons (pe_make mkI FI (hr.mono (by decide)) (by rfl) gL bI .nil pass0 (pa_cons pe_int (pa_cons (pe_tup (pa_cons (pe_tup (pa_cons pe_int (pa_cons pe_int pa_nil)))
            (pa_cons (pe_tup (pa_cons pe_int (pa_cons pe_int pa_nil))) pa_nil))) pa_nil))) (pa_cons (pe_tup pa_nil) pa_nil))) pa_nil))))))
      (pss_one (ps_ret (pe_and (pe_cmpR (op_eqD hr.units) (pv 3) (pe_lst (pa_cons pe_bl (pa_cons pe_bl (pa_cons pe_bl (pa_cons pe_bl pa_nil))))) (nomark _))
          (pe_one (pe_cmpR (op_eqD hr.units) (pe_cal C4 (hr.mono (by decide)) pass0 (pa_cons (pe_make mkI FI (hr.mono (by decide)) (by rfl) gL bI .nil pass0 (pa_cons pe_int (pa_cons (pe_tup pa_nil) pa_nil))) pa_nil))
            (pe_tup (pa_cons pe_int (pa_cons pe_int (pa_cons pe_int pa_nil)))) (nomark _)))))))), ?_⟩
    obtain ⟨z1, z2, z3⟩ := turns_le ((ns.map V.int).length : Int)
    refine ⟨_, rfl, a, _, rfl, .inl hS, _, _, rfl, _, _, rfl, _, rfl, z1, z2, for_range (fun i σ H' => ∃ v, σ = [some (.ref a), v, none, none] ∧ GxR.TabG H' PT ∧ SqL K H' a (ns.map V.int)) ⟨none, rfl, ht, hS⟩ ?_ ?_⟩
    · rintro i σ H1 hi ⟨v, rfl, t1, hS1⟩
      show gName 1 (V.int ((0 : Int) + (i : Int))) _ _ _
      rw [Int.zero_add]
      refine ⟨_, rfl, _, rfl, a, ns, i, rfl, hS1, by omega, fun H2 j s2 hj0 hj => ⟨j, rfl, hj, tab_same s2 t1, fun H3 t3 k3 => ⟨_, rfl, iteF ⟨_, rfl, t3, seq_kp hS1 hj0 s2 k3⟩⟩⟩⟩
    · rintro σ H1 ⟨v, rfl, t1, _⟩
      refine ⟨by show 4 ≤ sizeLine; decide, fun r1 h1 => ⟨by show 4 ≤ sizeLine; decide, fun r2 h2 => ⟨by show 4 ≤ sizeLine; decide, fun r3 h3 => ⟨by show 3 ≤ sizeLine; decide, fun M hM => ?_⟩⟩⟩⟩
      have s1 := same_upd (o := .tup [.int 1, .int 1, .int 0, .int 0]) h1
      have s2 := same_upd (o := .tup [.int 0, .int 1, .int 1, .int 0]) h2
      have s3 := same_upd (o := .tup [.int 0, .int 0, .int 1, .int 1]) h3
      have s4 := same_upd (o := .tup [.ref r1, .ref r2, .ref r3]) hM
      have tM := tab_same (((s1.trans s2).trans s3).trans s4) t1
      have hR4 : RowsAt (upd (upd (upd (upd H1 r1 (.tup [.int 1, .int 1, .int 0, .int 0])) r2 (.tup [.int 0, .int 1, .int 1, .int 0])) r3 (.tup [.int 0, .int 0, .int 1, .int 1])) M (.tup [.ref r1, .ref r2, .ref r3]))
          [(r1, [1, 1, 0, 0]), (r2, [0, 1, 1, 0]), (r3, [0, 0, 1, 1])] := by
        intro x hx
        simp at hx
        rcases hx with rfl | rfl | rfl
        · exact ((s2.trans s3).trans s4) _ _ upd_same
        · exact (s3.trans s4) _ _ upd_same
        · exact s4 _ _ upd_same
      refine fun xe dx hx hdx hne => lot_made2 (n := 4) (L := [(r1, [1, 1, 0, 0]), (r2, [0, 1, 1, 0]), (r3, [0, 0, 1, 1])]) upd_same hR4 anti4 hx hdx hne fun H2 ms u2 hL hpm => ?_
      have t2 := tab_same u2 tM
      clear hR4
      have hp4 : ms.Perm E4 := hpm
      have hD : LotD 4 ms := anti4.lotD hp4
      have hA : isAll ms = false := by
        rw [isAll_perm hp4]
        decide +kernel
      have hB : Best 4 ms [0, 2] := best_perm hp4.symm best4
      refine ⟨_, rfl, by show 2 ≤ sizeLine; decide, fun x1 g1 => ⟨xe, .ref x1, 4, ms, [0, 2], rfl, hL.st (.of_same (same_upd g1) t2), hD, hA, hB, tab_same (same_upd g1) t2, .inr ⟨x1, _, rfl, SqT.of upd_same, sqT_ty (SqT.of upd_same), by decide, fun y hy => ?_, fun b1 H3 hb1 v3 => ?_⟩⟩⟩
      · simp only [List.mem_cons, List.not_mem_nil, or_false] at hy
        rcases hy with rfl | rfl
        · exact .inl ⟨_, rfl⟩
        · exact .inl ⟨_, rfl⟩
      have e1 : b1 = true := hb1.mpr ⟨[0, 2], rfl, hB⟩
      subst e1
      have w3 := (ST.of_same (same_upd g1) t2).trans v3
      refine ⟨_, rfl, by show 2 ≤ sizeLine; decide, fun x2 g2 => ⟨xe, .ref x2, 4, ms, [0, 2], rfl, hL.st (w3.same (same_upd g2)), hD, hA, hB, tab_same (same_upd g2) w3.tab', .inr ⟨x2, _, rfl, SqT.of upd_same, sqT_ty (SqT.of upd_same), by decide, fun y hy => ?_, fun b2 H4 hb2 v4 => ?_⟩⟩⟩
      · simp only [List.mem_cons, List.not_mem_nil, or_false] at hy
        rcases hy with rfl | rfl
        · exact .inl ⟨_, rfl⟩
        · exact .inl ⟨_, rfl⟩
      have e2 : b2 = false := by
        cases e : b2 with
        | false => rfl
        | true =>
          obtain ⟨c, ec, bc⟩ := hb2.mp e
          have ec2 : c = [0, 1] := ints_inj (c := c) (d := [0, 1]) ec.symm
          rw [ec2] at bc
          exact absurd (best_perm hp4 bc) not4
      subst e2
      have w4 := (w3.same (same_upd g2)).trans v4
      refine ⟨_, rfl, by show 2 ≤ sizeLine; decide, fun x3 g3 => ⟨xe, .ref x3, 4, ms, [0, 2], rfl, hL.st (w4.same (same_upd g3)), hD, hA, hB, tab_same (same_upd g3) w4.tab', .inr ⟨x3, _, rfl, SqT.of upd_same, sqT_ty (SqT.of upd_same), by decide, fun y hy => ?_, fun b3 H5 hb3 v5 => ?_⟩⟩⟩
      · simp only [List.mem_cons, List.not_mem_nil, or_false] at hy
        rcases hy with rfl | rfl
        · exact .inl ⟨_, rfl⟩
        · exact .inr ⟨_, rfl⟩
      have e3 : b3 = false := by
        cases e : b3 with
        | false => rfl
        | true =>
          obtain ⟨c, ec, _⟩ := hb3.mp e
          have hm : V.bl true ∈ c.map V.int := by
            rw [← ec]
            exact List.mem_cons_of_mem _ List.mem_cons_self
          obtain ⟨i, _, ei⟩ := List.mem_map.mp hm
          cases ei
      subst e3
      have t5 := v5.tab'
      refine ⟨by show 2 ≤ sizeLine; decide, fun q1 k1 => ⟨by show 2 ≤ sizeLine; decide, fun q2 k2 => ⟨by show 2 ≤ sizeLine; decide, fun N kN => ?_⟩⟩⟩
      have y1 := same_upd (o := .tup [.int 2, .int 0]) k1
      have y2 := same_upd (o := .tup [.int 0, .int 3]) k2
      have y3 := same_upd (o := .tup [.ref q1, .ref q2]) kN
      have tN := tab_same ((y1.trans y2).trans y3) t5
      have hR2 : RowsAt (upd (upd (upd H5 q1 (.tup [.int 2, .int 0])) q2 (.tup [.int 0, .int 3])) N (.tup [.ref q1, .ref q2])) [(q1, [2, 0]), (q2, [0, 3])] := by
        intro x hx
        simp at hx
        rcases hx with rfl | rfl
        · exact (y2.trans y3) _ _ upd_same
        · exact y3 _ _ upd_same
      refine fun xf dy hx2 hdy hne2 => lot_made2 (n := 2) (L := [(q1, [2, 0]), (q2, [0, 3])]) upd_same hR2 anti2 hx2 hdy hne2 fun H6 ks u6 hL6 hpk => ?_
      have t6 := tab_same u6 tN
      clear hR2
      have hp2 : ks.Perm E2 := hpk
      refine ⟨by show 0 ≤ sizeLine; exact Nat.zero_le _, fun x4 g4 => ⟨xf, .ref x4, 2, ks, [], rfl, hL6.st (.of_same (same_upd g4) t6), anti2.lotD hp2, by rw [isAll_perm hp2]; decide +kernel, best_perm hp2.symm best2, tab_same (same_upd g4) t6,
        .inr ⟨x4, [], rfl, SqT.of upd_same, sqT_ty (SqT.of upd_same), by decide, fun y hy => absurd hy (by simp), fun b4 H7 hb4 v7 => ?_⟩⟩⟩
      have e4 : b4 = true := hb4.mpr ⟨[], rfl, best_perm hp2.symm best2⟩
      subst e4
      have t7 := v7.tab'
      refine ⟨by show 4 ≤ sizeLine; decide, fun lt hlt => ?_⟩
      refine ⟨_, rfl, by show 4 ≤ sizeLine; decide, fun lu hlu => ?_⟩
      have y8 := same_upd (o := .lst [.bl true, .bl false, .bl false, .bl true]) hlt
      have y9 := same_upd (o := .lst [.bl true, .bl false, .bl false, .bl true]) hlu
      have t9 := tab_same (y8.trans y9) t7
      have dl : ∀ {H : Hp} {l : Addr}, H l = some (.lst [.bl true, .bl false, .bl false, .bl true]) → Dp K H (.ref l) (.list [.bool true, .bool false, .bool false, .bool true]) := fun h => .lst (SqL.of h) (.cons (.bl _) (.cons (.bl _) (.cons (.bl _) (.cons (.bl _) .nil))))
      refine ⟨_, _, dl (y9 _ _ upd_same), dl upd_same, by decide +kernel, by decide +kernel, _, rfl, ite2 (fun _ => ?_) (fun cc => absurd (by decide +kernel) cc)⟩
      refine ⟨by show 0 ≤ sizeLine; exact Nat.zero_le _, fun O kO => ?_⟩
      have tO := tab_same (same_upd (o := .tup []) kO) t9
      refine fun xg dz hx3 hdz hne3 => lot_made2 (n := 3) (L := []) upd_same (fun _ h => absurd h (by simp)) anti3 hx3 hdz hne3 fun H10 ls u10 hL10 hpl => ?_
      have hp0 : ls.Perm [] := hpl
      have el : ls = [] := hp0.eq_nil
      subst el
      refine ⟨xg, 3, [], [0, 1, 2], rfl, hL10, anti3.lotD hp0, tab_same u10 tO, by decide +kernel, best3, fun c x5 H11 bc v11 hx5 => ?_⟩
      have ec := is3 bc
      subst ec
      refine ⟨by show 3 ≤ sizeLine; decide, fun x6 g6 => ?_⟩
      refine ⟨_, _, dp_tup ((same_upd g6).tupT hx5), dp_tup (ns := [0, 1, 2]) (SqT.of upd_same), shaped_tup _, shaped_tup _, ?_⟩
      rw [eqv_tup]
      exact q _
end
end K14

set_option maxHeartbeats 0
/-! what the head is asked -/
namespace K14
open PySem PySem.Spec PyProof.Rows L2
abbrev HR : PySem.W.OpenRow := PySem.W.OpenLaw.row PySem.Challenge.rw_pureladders_k14_whole_free_sets
def loose0 : List Str := ["_wall", "LadderError", "InvalidLot", "InvalidOperation", "ParseError", "InvalidNumber", "TooMany", "Refused", "is_whole", "is_within", "require_within", "MAX_LETTERS", "MAX_EXPONENT", "is_product_in", "divides", "added_product"]
def loose1 : List Str := ["require_letters", "MAX_MEMBER_EXPONENT", "MAX_MEMBERS", "MAX_PASSED", "MAX_POWER", "DIGITS", "BETWEEN", "least_of", "are_long", "few_least_of", "power_products", "letter_text", "product_text", "lot_text", "power_in", "product_in"]
def loose2 : List Str := ["members_in", "KeptMembers", "Lot", "is_passed_member", "members_told", "made_lot", "products_of_two", "is_all_in", "has_product", "require_same_letters", "require_lot", "ALL", "is_free_in", "sets_of", "free_set_in", "dimension_in"]
def loose3 : List Str := ["dimension", "require_some_left", "free_set", "is_free_set", "_law_jug", "_law_pour", "_law_taken", "_law_divides", "_law_joined", "_law_least", "_law_product", "_law_members", "_law_is_free", "_law_sets", "_law_told", "_law_right"]
abbrev loose : List Str := loose0 ++ loose1 ++ loose2 ++ loose3
def dD (i : Nat) (n : Str) : He.DefD := ⟨(n, none), n, n, defArgs (top i), defBody (top i), defScope (top i), [], []⟩
def dInit : He.DefD := ⟨("Lot", some "__init__"), "__init__", "Lot.__init__", defArgs sInit, defBody sInit, defScope sInit, [], []⟩
def fnD0 : List He.DefD := [dD 10 "is_whole", dD 11 "is_within", dD 12 "require_within", dD 19 "require_letters", dD 17 "divides", dD 28 "are_long", dD 29 "few_least_of", dD 39 "is_passed_member", dD 40 "members_told", dD 43 "is_all_in", dD 46 "require_lot", dD 49 "is_free_in"]
def fnD1 : List He.DefD := [dD 50 "sets_of", dD 51 "free_set_in", dD 52 "dimension_in", dD 53 "dimension", dD 54 "require_some_left", dD 55 "free_set", dD 56 "is_free_set", dD 58 "_law_jug", dD 59 "_law_pour", dD 60 "_law_taken", dD 61 "_law_divides", dD 63 "_law_least"]
def fnD2 : List He.DefD := [dD 64 "_law_product", dD 65 "_law_members", dD 66 "_law_is_free", dD 67 "_law_sets", dD 68 "_law_told", dD 69 "_law_right", dD 70 "law", dInit]
def fnD : List He.DefD := fnD0 ++ fnD1 ++ fnD2
def faD0 : List He.Fa := [.glo "is_whole", .glo "is_within", .glo "require_within", .glo "require_letters", .glo "divides", .glo "are_long", .glo "few_least_of", .glo "is_passed_member", .glo "members_told", .glo "is_all_in", .glo "require_lot", .glo "is_free_in", .glo "sets_of", .glo "free_set_in", .glo "dimension_in", .glo "dimension", .glo "require_some_left", .glo "free_set", .glo "is_free_set", .glo "_law_jug", .glo "_law_pour", .glo "_law_taken", .glo "_law_divides", .glo "_law_least"]
def faD1 : List He.Fa := [.glo "_law_product", .glo "_law_members", .glo "_law_is_free", .glo "_law_sets", .glo "_law_told", .glo "_law_right", .glo "law", .glo "Lot", .glo "Refused", .glo "KeptMembers", .free "isinstance", .free "int", .free "bool", .free "tuple", .free "list", .free "set", .free "len", .free "all", .free "any", .free "zip", .free "sorted", .free "sum", .free "max", .free "min"]
def faD2 : List He.Fa := [.free "abs", .free "range", .free "next", .free "enumerate", .free "super", .int "MAX_LETTERS" 8, .int "MAX_EXPONENT" 60, .int "MAX_MEMBER_EXPONENT" 8, .int "MAX_MEMBERS" 24, .int "MAX_PASSED" 200, .str "ALL" "all", .mkr "Lot"]
def faD : List He.Fa := faD0 ++ faD1 ++ faD2
abbrev cL (K : PySem.W.Frag) : Addr := He.ga K "Lot"
abbrev cR (K : PySem.W.Frag) : Addr := He.ga K "Refused"
abbrev cM (K : PySem.W.Frag) : Addr := He.ga K "KeptMembers"
/-- Refused.__init__ -/
abbrev rI (K : PySem.W.Frag) : Addr := He.ma K (He.ga K "Refused") "__init__"
/-- its function object, but for its addresses -/
abbrev RfV : Type := Option ((Str × Str × Arguments × FuncBody × Scope) × (Addr × Addr × Value × Value × List Str))
def rfObs (K : PySem.W.Frag) : RfV := match K.lookup (rI K) with
  | some ⟨_, _, .func d, _⟩ => some ((d.name, d.qualname, d.params, d.body, d.scope), (d.globals, d.builtins, d.defaults, d.kwdefaults, d.closure.map Prod.fst))
  | _ => none
def rfVal : RfV := some (("__init__", "Refused.__init__", defArgs sRI, .stmts (defBody sRI), defScope sRI), (mainGlobals, builtinsNs, .none, .none, ["__class__"]))
/-- its code object (of this text's file), its cell (the class) -/
def rfCode (K : PySem.W.Frag) (v : Value) : Bool := match v with
  | .ref c => PySem.W.codeIn K (.ref c) "Refused.__init__" && (match K.lookup c with
    | some ⟨_, _, .fields vs, _⟩ => (match (vs[2]? : Option Value) with
      | some (.str file _) => HR.prog.main.file == file
      | _ => false)
    | _ => false)
  | _ => false
def rfCell (K : PySem.W.Frag) (l : List (Str × Addr)) : Bool := match l with
  | [(_, cc)] => (match K.lookup cc with
    | some ⟨_, _, .cell (some v), _⟩ => decide (v = .ref (cR K))
    | _ => false)
  | _ => false
def rfOk (K : PySem.W.Frag) : Bool := match K.lookup (rI K) with
  | some ⟨_, _, .func d, _⟩ => rfCode K d.code && rfCell K d.closure
  | _ => false
def cdOk (K : PySem.W.Frag) : Bool := match PySem.W.clsIn K (cR K) with
  | some cd => decide (cd.mro = .ref (cR K) :: arTail) && cd.hasDict
  | none => false
def exL0 (K : PySem.W.Frag) : List Bool := [PySem.W.plainGet K (cL K) Str.empty, PySem.W.isClsIn K (cL K), PySem.W.plainOver K (cL K), He.eqO (PySem.W.findIn K (.ref (cL K)) "__setattr__") (some (some (.builtin "object.__setattr__"))), He.eqO (PySem.W.findIn K (.ref (cL K)) "own_letters") (some (some (.ref (He.ma K (cL K) "own_letters")))), He.eqO (PySem.W.specialIn K (.ref (He.ma K (cL K) "own_letters")) "__get__") (some (some (.builtin "member_descriptor.__get__"))), decide (PySem.W.takesIn K (.ref (He.ma K (cL K) "own_letters")) = some true), decide (PySem.W.typeIn K (.ref (He.ma K (cL K) "own_letters")) = some (.type "member_descriptor")), decide (PySem.W.slotIn K (He.ma K (cL K) "own_letters") (cL K) = some 0), He.eqO (PySem.W.findIn K (.ref (cL K)) "own_members") (some (some (.ref (He.ma K (cL K) "own_members")))), He.eqO (PySem.W.specialIn K (.ref (He.ma K (cL K) "own_members")) "__get__") (some (some (.builtin "member_descriptor.__get__"))), decide (PySem.W.takesIn K (.ref (He.ma K (cL K) "own_members")) = some true), decide (PySem.W.typeIn K (.ref (He.ma K (cL K) "own_members")) = some (.type "member_descriptor"))]
def exL1 (K : PySem.W.Frag) : List Bool := [decide (PySem.W.slotIn K (He.ma K (cL K) "own_members") (cL K) = some 1), He.eqO (PySem.W.findIn K (.ref (cL K)) "__class__") (some (some (.builtin "object.__class__"))), He.eqO (PySem.W.specialIn K (.builtin "object.__class__") "__get__") (some (some (.builtin "getset_descriptor.__get__"))), decide (PySem.W.takesIn K (.builtin "object.__class__") = some true), decide (PySem.W.mroIn K (cL K) (.type "object") = some true), decide (PySem.W.kitOne K (.ref (cL K)) (.ref (cL K)) = some true), decide (PySem.W.kitOne K (.type "tuple") (.ref (cM K)) = some false), PySem.W.keepIn K (.ref (cR K)), PySem.W.excInitIn K (cR K) arTail "ArithmeticError.__new__", cdOk K, He.eqO (PySem.W.findIn K (.ref (cR K)) "__setattr__") (some (some (.builtin "object.__setattr__"))), He.eqO (PySem.W.findIn K (.ref (cR K)) "__getattribute__") (some (some (.builtin "BaseException.__getattribute__"))), He.eqO (PySem.W.findIn K (.ref (cR K)) "__getattr__") (some none)]
def exL2 (K : PySem.W.Frag) : List Bool := [He.eqO (PySem.W.findIn K (.ref (cR K)) "reason") (some none), decide (PySem.W.subIn K (.ref (cR K)) (.type "BaseException") = some true), decide (PySem.W.subIn K (.ref (cR K)) (.type "ArithmeticError") = some true), decide (PySem.W.typeIn K (.ref (cR K)) = some (.type "type")), PySem.W.hasDictIn K (cR K), decide (PySem.W.exmOne K (.ref (cR K)) (.ref (cR K)) = some true), He.eqO (PySem.W.nsIn K cStatics "thirdparty.any") (some none), He.eqO (PySem.W.ks_superIn K (cR K) (cR K) "__init__") (some (some (.builtin "ArithmeticError.__init__"))), He.eqO (PySem.W.findIn K (.ref (cR K)) "__init__") (some (some (.ref (rI K)))), PySem.W.isFn K (.ref (rI K)), rfOk K]
def exD (K : PySem.W.Frag) : Bool := (exL0 K).all id && (exL1 K).all id && (exL2 K).all id
/-! the Hook: the defs and facts of He.obsT, the tests, the one table, Refused.__init__; looked at: what the names reach, and the statics -/
def asZ (g : Addr → Option Obj) : List Addr := cStatics :: He.asD g 5
abbrev fsC (K : PySem.W.Frag) : Addr := He.codeOf K ("free_set_in", none)
/-- the table of free_set_in's code object -/
abbrev fsT (K : PySem.W.Frag) : Addr := He.tabOf K (fsC K)
def blank (o : Option Obj) : Bool := match o with
  | some u => He.emptyTab u
  | none => false
theorem blank_at {o : Option Obj} (h : blank o = true) : ∃ u, o = some u ∧ He.emptyTab u = true := by
  cases o with
  | none => cases h
  | some u => exact ⟨u, rfl, h⟩
abbrev AlZ : Type := (He.AlT × Bool) × RfV
def obsK (g : Addr → Option Obj) (K : PySem.W.Frag) : AlZ := ((He.obsT faD fnD [] K, (exD K && PySem.W.codeHdIn K (fsC K) (fsT K)) && blank (g (fsT K))), rfObs K)
def obsZ (g : Addr → Option Obj) : AlZ := obsK g (He.frT g (asZ g))
def valZ (w : World) : AlZ := ((He.valT fnD [] w, true), rfVal)
structure SaysZ (w : World) (h : Heap) (K : PySem.W.Frag) : Prop where
  t : He.SaysT faD fnD [] w K
  ex : exD K = true
  code : PySem.W.codeHdIn K (fsC K) (fsT K) = true
  tab : h.get? (fsT K) = some { cls := .none, data := .fields #[] }
  out : K.lookup (fsT K) = none
  r : rfObs K = rfVal
theorem saysZ_of {w : World} {h : Heap} (e : obsZ h.get? = valZ w) : SaysZ w h (He.frT h.get? (asZ h.get?)) := by
  have both := Prod.ext_iff.mp e
  have left := Prod.ext_iff.mp both.1
  obtain ⟨b1, b2⟩ := He.ba (show ((exD (He.frT h.get? (asZ h.get?)) && PySem.W.codeHdIn _ (fsC (He.frT h.get? (asZ h.get?))) (fsT (He.frT h.get? (asZ h.get?)))) && blank (h.get? (fsT (He.frT h.get? (asZ h.get?))))) = true from left.2)
  obtain ⟨b3, b4⟩ := He.ba b1
  obtain ⟨u, stands, empty⟩ := blank_at b2
  exact { t := left.1, ex := b3, code := b4, tab := by rw [stands, He.emptyTab_eq empty], out := He.frT_none stands empty, r := both.2 }
def hookZ : PySem.W.Hook where
  α := AlZ
  obs s := obsZ s.heap.get?
  val := valZ
  says w h := ∃ K : PySem.W.Frag, K.In h ∧ SaysZ w h K
  of _ _ e := ⟨_, He.frT_in, saysZ_of e⟩
  keeps _ _ _ := fun ⟨K, hK, c⟩ k => ⟨K, PySem.W.Frag.In.keeps hK k, { c with tab := k _ _ c.tab }⟩
def obZ (s : PySem.W.SharedT) : AlZ := obsZ (HandSHeadRun.getT s)
theorem obZ_eq (s : PySem.W.SharedT) : obZ s = hookZ.obs s.abs := by
  have e : HandSHeadRun.getT s = s.abs.heap.get? := funext (HandSHeadRun.getT_eq s)
  show obsZ _ = obsZ _
  rw [e]
end K14

set_option maxHeartbeats 0
/-! the head's run -/
namespace K14
open PySem PySem.Spec PyProof.Rows L2
theorem headRun (w : World) : HandSHeadRun.RunEq HR (PySem.W.view HR.prog [70]) hookZ obZ 6000 loose w := by
  intro os
  kernel_rfl
end K14

set_option maxHeartbeats 0
/-! what the head tells: the texts' defs, the classes, the law's promise -/
namespace K14
open PySem PySem.Spec PyProof.Rows L2
open PySem.W (ksFn)
theorem all_at {l : List Bool} (h : l.all id = true) (i : Nat) {b : Bool} (e : l[i]? = some b := by rfl) : b = true := List.all_eq_true.mp h b (List.mem_of_getElem? e)
section
variable {K : PySem.W.Frag} {h : Heap} {mg : Str → Option Value} {w : World}
theorem ex_of (e : exD K = true) : (exL0 K).all id = true ∧ (exL1 K).all id = true ∧ (exL2 K).all id = true := by
  obtain ⟨e1, e2⟩ := He.ba e
  obtain ⟨e3, e4⟩ := He.ba e1
  exact ⟨e3, e4, e2⟩
theorem src_at (X : K.In h) (G : h.Ns mainGlobals mg) (c : He.SaysD faD fnD K) {n : Nat} {x : Str} (i j : Nat) (ps : List Str) (hd : fnD[i]? = some (dD n x)) (hf : faD[j]? = some (.glo x))
    (hb : ∀ (kV doc pm : Value) (an : Option Addr) (cdv ct : Value) (us : List Value), us.length = ps.length → bindArgs (PySem.W.fnOf x x (defArgs (top n)) (defBody (top n)) (defScope (top n)) .none kV doc pm an cdv ct) ⟨us, []⟩ = pure (ps.zip us)) : Src K mg x (top n) ps := by
  obtain ⟨fd, F⟩ := c.def_ i hd
  have F2 : FnP K x (top n) (He.ga K x) fd := F
  exact ⟨_, fd, F2, He.glo_ok X G (c.fact j hf), F2.bindsN hb⟩
theorem srcC_at (X : K.In h) (G : h.Ns mainGlobals mg) (c : He.SaysD faD fnD K) {n : Nat} {x : Str} (i j : Nat) (ps : List Str) (hd : fnD[i]? = some (dD n x)) (hf : faD[j]? = some (.glo x))
    (hb : ∀ (kV doc pm : Value) (an : Option Addr) (cdv ct : Value) (us : List Value), us.length = ps.length → bindArgs (PySem.W.fnOf x x (defArgs (top n)) (defBody (top n)) (defScope (top n)) .none kV doc pm an cdv ct) ⟨us, []⟩ = pure (ps.zip us)) : SrcC K mg x (top n) ps (He.codeOf K (x, none)) := by
  obtain ⟨fd, F⟩ := c.def_ i hd
  have F2 : FnP K x (top n) (He.ga K x) fd := F
  refine ⟨_, fd, F2, He.glo_ok X G (c.fact j hf), F2.bindsN hb, ?_⟩
  obtain ⟨oc, od, dV, kV, doc, pm, an, cdv, ct, osl, e, lk, hcd, _, _⟩ := F2.ex
  obtain ⟨cc, ec⟩ := He.codeIn_ref hcd
  have ef : fd.code = .ref cc := by
    rw [e]
    exact ec
  rw [ef, He.codeOf_eq (p := (x, none)) lk ef]
theorem lotC_of (e : exD K = true) : LotC K (cL K) := by
  obtain ⟨a0, a1, a2⟩ := ex_of e
  refine ⟨⟨all_at a0 0, all_at a0 1, all_at a0 2, He.eqO_ok (all_at a0 3)⟩, ⟨He.ma K (cL K) "own_letters", He.eqO_ok (all_at a0 4), He.eqO_ok (all_at a0 5), of_decide_eq_true (all_at a0 6), of_decide_eq_true (all_at a0 7), of_decide_eq_true (all_at a0 8), by decide⟩,
    ⟨He.ma K (cL K) "own_members", He.eqO_ok (all_at a0 9), He.eqO_ok (all_at a0 10), of_decide_eq_true (all_at a0 11), of_decide_eq_true (all_at a0 12), of_decide_eq_true (all_at a1 0), by decide⟩,
    ⟨He.eqO_ok (all_at a1 1), He.eqO_ok (all_at a1 2), of_decide_eq_true (all_at a1 3), of_decide_eq_true (all_at a1 4)⟩, of_decide_eq_true (all_at a1 5)⟩
theorem rf_fn (e : rfObs K = rfVal) (b : rfOk K = true) : ∃ (oc : Value) (od : Option Addr) (doc pm : Value) (an : Option Addr) (cda : Addr) (ct : Value) (osl : Array (Option Value)) (cc : Addr) (cl : Value) (cld : Option Addr) (csl : Array (Option Value)) (ccl : Value) (cdd : Option Addr) (vs : Array Value) (ccs : Array (Option Value)) (file : Str) (tf : Tok),
    K.lookup (rI K) = some ⟨oc, od, .func (ksFn "__init__" "Refused.__init__" (defArgs sRI) (defBody sRI) (defScope sRI) .none .none doc pm an (.ref cda) ct cc), osl⟩ ∧ PySem.W.codeIn K (.ref cda) "Refused.__init__" = true ∧
    K.lookup cc = some ⟨cl, cld, .cell (some (.ref (cR K))), csl⟩ ∧ K.lookup cda = some ⟨ccl, cdd, .fields vs, ccs⟩ ∧ vs[2]? = some (.str file tf) ∧ ((HR.prog.main.file : Str) == file) = true := by
  unfold rfObs at e
  unfold rfOk at b
  cases q : K.lookup (rI K) with
  | none =>
    rw [q] at b
    cases b
  | some o =>
    obtain ⟨oc, od, dt, osl⟩ := o
    rw [q] at e b
    cases dt with
    | func d =>
      obtain ⟨n1, n2, n3, n4, n5, n6, n7, n8, n9, n10, n11, n12, n13, n14, n15⟩ := d
      have e2 : (some ((n1, n2, n3, n4, n5), (n6, n15, n8, n9, n7.map Prod.fst)) : RfV) = (some (("__init__", "Refused.__init__", defArgs sRI, .stmts (defBody sRI), defScope sRI), (mainGlobals, builtinsNs, .none, .none, ["__class__"])) : RfV) := e
      simp only [Prod.mk.injEq, Option.some.injEq] at e2
      obtain ⟨⟨h1, h2, h3, h4, h5⟩, h6, h15, h8, h9, h7⟩ := e2
      subst h1 h2 h3 h4 h5 h6 h15 h8 h9
      obtain ⟨b3, b4⟩ := He.ba (show (rfCode K n13 && rfCell K n7) = true from b)
      obtain ⟨p7, e7⟩ : ∃ p7, n7 = [p7] := List.length_eq_one_iff.mp (by
        have := congrArg List.length h7
        rw [List.length_map] at this
        exact this)
      subst e7
      obtain ⟨x7, cc⟩ := p7
      have ex : x7 = "__class__" := (List.cons.inj h7).1
      subst ex
      cases n13 with
      | ref cda =>
        obtain ⟨b6, b7⟩ := He.ba b3
        cases q2 : K.lookup cda with
        | none =>
          rw [q2] at b7
          cases b7
        | some o2 =>
          obtain ⟨ccl, cdd, dt2, ccs⟩ := o2
          rw [q2] at b7
          cases dt2 with
          | fields vs =>
            have b8 : (match (vs[2]? : Option Value) with
              | some (.str file _) => HR.prog.main.file == file
              | _ => false) = true := b7
            cases q3 : (vs[2]? : Option Value) with
            | none =>
              rw [q3] at b8
              cases b8
            | some v3 =>
              rw [q3] at b8
              cases v3 with
              | str file tf =>
                have b9 : (match K.lookup cc with
                  | some ⟨_, _, .cell (some v), _⟩ => decide (v = .ref (cR K))
                  | _ => false) = true := b4
                cases q4 : K.lookup cc with
                | none =>
                  rw [q4] at b9
                  cases b9
                | some o4 =>
                  obtain ⟨cl, cld, dt4, csl⟩ := o4
                  rw [q4] at b9
                  cases dt4 with
                  | cell ov =>
                    cases ov with
                    | none => cases b9
                    | some v4 =>
                      have e4 : v4 = .ref (cR K) := of_decide_eq_true b9
                      subst e4
                      exact ⟨oc, od, n10, n11, n12, cda, n14, osl, cc, cl, cld, csl, ccl, cdd, vs, ccs, file, tf, rfl, b6, q4, q2, q3, b8⟩
                  | _ => cases b9
              | _ => cases b8
          | _ => cases b7
      | _ => cases b3
    | _ => cases b
theorem cd_of (b : cdOk K = true) : ∃ cd, PySem.W.clsIn K (cR K) = some cd ∧ cd.mro = .ref (cR K) :: arTail ∧ cd.hasDict = true := by
  unfold cdOk at b
  cases q : PySem.W.clsIn K (cR K) with
  | none =>
    rw [q] at b
    cases b
  | some cd =>
    rw [q] at b
    obtain ⟨b1, b2⟩ := He.ba (show (decide (cd.mro = .ref (cR K) :: arTail) && cd.hasDict) = true from b)
    exact ⟨cd, rfl, of_decide_eq_true b1, b2⟩
theorem refTxt_of (X : K.In h) (G : h.Ns mainGlobals mg) (c : SaysZ w h K) : RefTxt HR.prog K mg (cR K) := by
  obtain ⟨a0, a1, a2⟩ := ex_of c.ex
  have D := c.t.d
  obtain ⟨oc, od, doc, pm, an, cda, ct, osl, cc, cl, cld, csl, ccl, cdd, vs, ccs, file, tf, r1, r2, r3, r4, r5, r6⟩ := rf_fn c.r (all_at a2 10)
  exact { gC := He.glo_ok X G (D.fact 32 (f := .glo "Refused") rfl), own := ⟨all_at a1 7, all_at a2 4, of_decide_eq_true (all_at a2 3)⟩, xi := all_at a1 8, cd := cd_of (all_at a1 9), sa := He.eqO_ok (all_at a1 10), ga := He.eqO_ok (all_at a1 11), gg := He.eqO_ok (all_at a1 12),
          noN := He.eqO_ok (all_at a2 0), exC := of_decide_eq_true (all_at a2 1), hB := of_decide_eq_true (all_at a2 2), te := of_decide_eq_true (all_at a2 5), ho := He.eqO_ok (all_at a2 6), sup := He.free_ok X G (D.fact 52 (f := .free "super") rfl), hm := He.eqO_ok (all_at a2 7), htop := by decide +kernel,
          fn := ⟨rI K, oc, od, doc, pm, an, cda, ct, osl, cc, cl, cld, csl, ccl, cdd, vs, ccs, file, tf, He.eqO_ok (all_at a2 8), all_at a2 9, r1, r2, r3, r4, r5, r6⟩ }
theorem bl_of (X : K.In h) (G : h.Ns mainGlobals mg) (D : He.SaysD faD fnD K) : Bl mg :=
  ⟨He.free_ok X G (D.fact 34 (f := .free "isinstance") rfl), He.free_ok X G (D.fact 35 (f := .free "int") rfl), He.free_ok X G (D.fact 36 (f := .free "bool") rfl), He.free_ok X G (D.fact 37 (f := .free "tuple") rfl), He.free_ok X G (D.fact 38 (f := .free "list") rfl), He.free_ok X G (D.fact 39 (f := .free "set") rfl), He.free_ok X G (D.fact 40 (f := .free "len") rfl), He.free_ok X G (D.fact 41 (f := .free "all") rfl), He.free_ok X G (D.fact 42 (f := .free "any") rfl), He.free_ok X G (D.fact 43 (f := .free "zip") rfl), He.free_ok X G (D.fact 44 (f := .free "sorted") rfl), He.free_ok X G (D.fact 45 (f := .free "sum") rfl), He.free_ok X G (D.fact 46 (f := .free "max") rfl), He.free_ok X G (D.fact 47 (f := .free "min") rfl), He.free_ok X G (D.fact 48 (f := .free "abs") rfl), He.free_ok X G (D.fact 49 (f := .free "range") rfl), He.free_ok X G (D.fact 50 (f := .free "next") rfl), He.free_ok X G (D.fact 51 (f := .free "enumerate") rfl)⟩
theorem lawAt {fa : Addr} (X : K.In h) (G : h.Ns mainGlobals mg) (c : SaysZ w h K) (hfa : mg ("law" : Str) = some (.ref fa)) : LamX.LawAtS PySem.Challenge.rw_pureladders_k14_whole_free_sets w K CX0 8 63 "_law_script" mg fa h := by
  have D := c.t.d
  obtain ⟨a0, a1, a2⟩ := ex_of c.ex
  have B := bl_of X G D
  have LC := lotC_of c.ex
  have T := refTxt_of X G c
  have S10 := src_at X G D (n := 10) (x := "is_whole") 0 0 ["value"] rfl rfl (fun _ _ _ _ _ _ us hl => match us, hl with | [_], _ => rfl)
  have S11 := src_at X G D (n := 11) (x := "is_within") 1 1 ["value", "least", "greatest"] rfl rfl (fun _ _ _ _ _ _ us hl => match us, hl with | [_, _, _], _ => rfl)
  have S12 := src_at X G D (n := 12) (x := "require_within") 2 2 ["value", "least", "greatest"] rfl rfl (fun _ _ _ _ _ _ us hl => match us, hl with | [_, _, _], _ => rfl)
  have S19 := src_at X G D (n := 19) (x := "require_letters") 3 3 ["letters"] rfl rfl (fun _ _ _ _ _ _ us hl => match us, hl with | [_], _ => rfl)
  have S17 := src_at X G D (n := 17) (x := "divides") 4 4 ["one", "other"] rfl rfl (fun _ _ _ _ _ _ us hl => match us, hl with | [_, _], _ => rfl)
  have S28 := src_at X G D (n := 28) (x := "are_long") 5 5 ["products"] rfl rfl (fun _ _ _ _ _ _ us hl => match us, hl with | [_], _ => rfl)
  have S29 := src_at X G D (n := 29) (x := "few_least_of") 6 6 ["products"] rfl rfl (fun _ _ _ _ _ _ us hl => match us, hl with | [_], _ => rfl)
  have S39 := src_at X G D (n := 39) (x := "is_passed_member") 7 7 ["letters", "value"] rfl rfl (fun _ _ _ _ _ _ us hl => match us, hl with | [_, _], _ => rfl)
  have S40 := src_at X G D (n := 40) (x := "members_told") 8 8 ["letters", "members"] rfl rfl (fun _ _ _ _ _ _ us hl => match us, hl with | [_, _], _ => rfl)
  have S43 := src_at X G D (n := 43) (x := "is_all_in") 9 9 ["members"] rfl rfl (fun _ _ _ _ _ _ us hl => match us, hl with | [_], _ => rfl)
  have S46 := src_at X G D (n := 46) (x := "require_lot") 10 10 ["value"] rfl rfl (fun _ _ _ _ _ _ us hl => match us, hl with | [_], _ => rfl)
  have S49 := src_at X G D (n := 49) (x := "is_free_in") 11 11 ["members", "letters_told"] rfl rfl (fun _ _ _ _ _ _ us hl => match us, hl with | [_, _], _ => rfl)
  have S50 := src_at X G D (n := 50) (x := "sets_of") 12 12 ["letters", "size"] rfl rfl (fun _ _ _ _ _ _ us hl => match us, hl with | [_, _], _ => rfl)
  have S51 := srcC_at X G D (n := 51) (x := "free_set_in") 13 13 ["lot"] rfl rfl (fun _ _ _ _ _ _ us hl => match us, hl with | [_], _ => rfl)
  have S52 := src_at X G D (n := 52) (x := "dimension_in") 14 14 ["lot"] rfl rfl (fun _ _ _ _ _ _ us hl => match us, hl with | [_], _ => rfl)
  have S53 := src_at X G D (n := 53) (x := "dimension") 15 15 ["lot"] rfl rfl (fun _ _ _ _ _ _ us hl => match us, hl with | [_], _ => rfl)
  have S54 := src_at X G D (n := 54) (x := "require_some_left") 16 16 ["lot"] rfl rfl (fun _ _ _ _ _ _ us hl => match us, hl with | [_], _ => rfl)
  have S55 := src_at X G D (n := 55) (x := "free_set") 17 17 ["lot"] rfl rfl (fun _ _ _ _ _ _ us hl => match us, hl with | [_], _ => rfl)
  have S56 := src_at X G D (n := 56) (x := "is_free_set") 18 18 ["lot", "value"] rfl rfl (fun _ _ _ _ _ _ us hl => match us, hl with | [_, _], _ => rfl)
  have S58 := src_at X G D (n := 58) (x := "_law_jug") 19 19 ["_law_script", "_law_turn"] rfl rfl (fun _ _ _ _ _ _ us hl => match us, hl with | [_, _], _ => rfl)
  have S59 := src_at X G D (n := 59) (x := "_law_pour") 20 20 ["_law_jug_here", "_law_total"] rfl rfl (fun _ _ _ _ _ _ us hl => match us, hl with | [_, _], _ => rfl)
  have S60 := src_at X G D (n := 60) (x := "_law_taken") 21 21 ["_law_jug_here", "_law_items"] rfl rfl (fun _ _ _ _ _ _ us hl => match us, hl with | [_, _], _ => rfl)
  have S61 := src_at X G D (n := 61) (x := "_law_divides") 22 22 ["_law_one", "_law_other"] rfl rfl (fun _ _ _ _ _ _ us hl => match us, hl with | [_, _], _ => rfl)
  have S63 := src_at X G D (n := 63) (x := "_law_least") 23 23 ["_law_products"] rfl rfl (fun _ _ _ _ _ _ us hl => match us, hl with | [_], _ => rfl)
  have S64 := src_at X G D (n := 64) (x := "_law_product") 24 24 ["_law_jug_here", "_law_letters", "_law_most"] rfl rfl (fun _ _ _ _ _ _ us hl => match us, hl with | [_, _, _], _ => rfl)
  have S65 := src_at X G D (n := 65) (x := "_law_members") 25 25 ["_law_jug_here", "_law_letters", "_law_total", "_law_most"] rfl rfl (fun _ _ _ _ _ _ us hl => match us, hl with | [_, _, _, _], _ => rfl)
  have S66 := src_at X G D (n := 66) (x := "_law_is_free") 26 26 ["_law_members_here", "_law_chosen"] rfl rfl (fun _ _ _ _ _ _ us hl => match us, hl with | [_, _], _ => rfl)
  have S67 := src_at X G D (n := 67) (x := "_law_sets") 27 27 ["_law_letters"] rfl rfl (fun _ _ _ _ _ _ us hl => match us, hl with | [_], _ => rfl)
  have S68 := src_at X G D (n := 68) (x := "_law_told") 28 28 ["_law_lot"] rfl rfl (fun _ _ _ _ _ _ us hl => match us, hl with | [_], _ => rfl)
  have S69 := src_at X G D (n := 69) (x := "_law_right") 29 29 ["_law_jug_here"] rfl rfl (fun _ _ _ _ _ _ us hl => match us, hl with | [_], _ => rfl)
  have I_MAX_LETTERS : IsN mg "MAX_LETTERS" 8 := He.int_ok X G (D.fact 53 (f := .int "MAX_LETTERS" 8) rfl)
  have I_MAX_EXPONENT : IsN mg "MAX_EXPONENT" 60 := He.int_ok X G (D.fact 54 (f := .int "MAX_EXPONENT" 60) rfl)
  have I_MAX_MEMBER_EXPONENT : IsN mg "MAX_MEMBER_EXPONENT" 8 := He.int_ok X G (D.fact 55 (f := .int "MAX_MEMBER_EXPONENT" 8) rfl)
  have I_MAX_MEMBERS : IsN mg "MAX_MEMBERS" 24 := He.int_ok X G (D.fact 56 (f := .int "MAX_MEMBERS" 24) rfl)
  have I_MAX_PASSED : IsN mg "MAX_PASSED" 200 := He.int_ok X G (D.fact 57 (f := .int "MAX_PASSED" 200) rfl)
  have gL : mg "Lot" = some (.ref (cL K)) := He.glo_ok X G (D.fact 31 (f := .glo "Lot") rfl)
  have gM : mg "KeptMembers" = some (.ref (cM K)) := He.glo_ok X G (D.fact 33 (f := .glo "KeptMembers") rfl)
  have gA : ∃ t, mg "ALL" = some (.str "all" t) := He.str_ok X G (D.fact 58 (f := .str "ALL" "all") rfl)
  have kk : PySem.W.kitOne K (.type "tuple") (.ref (cM K)) = some false := of_decide_eq_true (all_at a1 6)
  have SI : SrcM K (cL K) "__init__" "Lot.__init__" sInit ["self", "letters", "members"] := by
    obtain ⟨fd, F⟩ := D.def_ 31 (d := dInit) rfl
    have F2 : FunD K "__init__" "Lot.__init__" (defArgs sInit) (defBody sInit) (defScope sInit) [] [] (He.ma K (cL K) "__init__") fd := F
    exact ⟨_, fd, F2, He.mkr_ok (D.fact 59 (f := .mkr "Lot") rfl), F2.bindsN fun _ _ _ _ _ _ us hl => match us, hl with | [_, _, _], _ => rfl⟩
  obtain ⟨fd, F⟩ := D.def_ 30 (d := dD 70 "law") rfl
  have e := hfa.symm.trans (He.glo_ok X G (D.fact 30 (f := .glo "law") rfl))
  cases e
  have FL : FnP K "law" sLaw (He.ga K "law") fd := F
  refine ⟨fd, [(fsC K, fsT K)], spLaw (fsT K) K, fun p hp => ?_, fun p hp => ?_, fun p hp => ?_, fun s u => ?_, fun H a ns hl hbits hT hS => ?_, fun base hKb hGb TB => ?_⟩
  · exact (List.mem_singleton.mp hp) ▸ c.tab
  · exact (List.mem_singleton.mp hp) ▸ c.out
  · exact (List.mem_singleton.mp hp) ▸ PySem.W.codeHd_of_K X c.code
  · exact FL.bindsA (ps := ["_law_script"]) (fun _ _ _ _ _ _ us hl => match us, hl with | [_], _ => rfl) s [u] rfl
  · exact ⟨a, ns, rfl, hS, ⟨#[], hT _ (List.mem_singleton.mpr rfl), trivial⟩, fun _ => rfl⟩
  · have TB1 := TB _ (List.mem_singleton.mpr rfl)
    have TC : GxR.TabB base mg (fsC K) (fsT K) := ⟨TB1.code, TB1.bm, TB1.gP⟩
    have k_whole : Cal HR.prog w K mg base CX0 1 "is_whole" ["value"] spWhole := ok_whole S10 B
    have k_within : Cal HR.prog w K mg base CX0 2 "is_within" ["value", "least", "greatest"] spWithin := ok_within S11 k_whole
    have k_req : Cal HR.prog w K mg base CX0 3 "require_within" ["value", "least", "greatest"] spReq := ok_req S12 k_within
    have k_reqL : Cal HR.prog w K mg base CX0 4 "require_letters" ["letters"] spReqL := ok_reqL S19 k_req I_MAX_LETTERS
    have k_div : Cal HR.prog w K mg base CX0 1 "divides" ["one", "other"] (spDiv K) := ok_div S17 B
    have k_ldiv : Cal HR.prog w K mg base CX0 1 "_law_divides" ["_law_one", "_law_other"] (spDiv K) := ok_ldiv S61 B
    have k_free : Cal HR.prog w K mg base CX0 1 "is_free_in" ["members", "letters_told"] (spFree K) := ok_free S49 B
    have k_lfree : Cal HR.prog w K mg base CX0 1 "_law_is_free" ["_law_members_here", "_law_chosen"] (spFree K) := ok_lfree S66 B
    have k_lsets : Cal HR.prog w K mg base CX0 1 "_law_sets" ["_law_letters"] (spLSets K) := ok_lsets S67 B
    have k_sets : Cal HR.prog w K mg base CX0 1 "sets_of" ["letters", "size"] (spSets K) := ok_sets S50 B
    have k_fset : Cal HR.prog w K mg base CX0 3 "free_set_in" ["lot"] (spFSet (fsT K) K (cL K)) := ok_fset S51 TC B LC k_sets k_free
    have k_isAll : Cal HR.prog w K mg base CX0 1 "is_all_in" ["members"] (spIsAll K) := ok_isAll S43 B
    have k_reqLot : Cal HR.prog w K mg base CX0 1 "require_lot" ["value"] (spReqLot K (cL K)) := ok_reqLot S46 B LC gL
    have k_dimI : Cal HR.prog w K mg base CX0 4 "dimension_in" ["lot"] (spDimI (fsT K) K (cL K)) := ok_dimI S52 B k_fset
    have k_dim : Cal HR.prog w K mg base CX0 5 "dimension" ["lot"] (spDimI (fsT K) K (cL K)) := ok_dim S53 k_reqLot k_dimI
    have k_some : Cal HR.prog w K mg base CX0 2 "require_some_left" ["lot"] (spSome K (cL K)) := ok_some S54 LC k_reqLot k_isAll
    have k_ifs : Cal HR.prog w K mg base CX0 5 "is_free_set" ["lot", "value"] (spIFS (fsT K) K (cL K)) := ok_ifs S56 B LC k_some k_within k_dimI k_free
    have k_long : Cal HR.prog w K mg base CX0 1 "are_long" ["products"] (spLong K) := ok_long S28 B I_MAX_EXPONENT
    have k_few : Cal HR.prog w K mg base CX0 2 "few_least_of" ["products"] (spFew K) := ok_few S29 B I_MAX_MEMBERS k_long k_div
    have k_passed : Cal HR.prog w K mg base CX0 3 "is_passed_member" ["letters", "value"] (spPassed K) := ok_passed S39 B I_MAX_MEMBER_EXPONENT k_within
    have k_told : Cal HR.prog w K mg base CX0 4 "members_told" ["letters", "members"] (spTold K) := ok_told S40 B I_MAX_PASSED gM kk k_passed k_few
    have k_init : CalM HR.prog w K mg base CX0 5 (cL K) ["self", "letters", "members"] (spInit K (cL K)) := ok_init SI LC k_reqL k_told
    have k_pour : Cal HR.prog w K mg base CX0 1 "_law_pour" ["_law_jug_here", "_law_total"] spPour := ok_pour S59 B
    have k_jug : Cal HR.prog w K mg base CX0 1 "_law_jug" ["_law_script", "_law_turn"] (spJug K) := ok_jug S58 B
    have k_taken : Cal HR.prog w K mg base CX0 2 "_law_taken" ["_law_jug_here", "_law_items"] (spTaken2 K) := ok_taken S60 B k_pour
    have k_prod : Cal HR.prog w K mg base CX0 2 "_law_product" ["_law_jug_here", "_law_letters", "_law_most"] (spProd K) := ok_prod S64 B k_pour
    have k_least : Cal HR.prog w K mg base CX0 2 "_law_least" ["_law_products"] (spLeast K) := ok_least S63 B k_ldiv
    have k_mem : Cal HR.prog w K mg base CX0 3 "_law_members" ["_law_jug_here", "_law_letters", "_law_total", "_law_most"] (spMem K) := ok_mem S65 B k_pour k_prod k_least
    have k_someX : Cal HR.prog w K mg base (L2.CX HR.prog w) 2 "require_some_left" ["lot"] (spSomeX K (cL K) (cR K)) := ok_someX S54 LC T gA k_reqLot k_isAll
    have k_fs : Cal HR.prog w K mg base (L2.CX HR.prog w) 4 "free_set" ["lot"] (spFS (fsT K) K (cL K) (cR K)) := ok_fs S55 k_someX k_fset
    have k_ltold : Cal HR.prog w K mg base CX0 5 "_law_told" ["_law_lot"] (spLTold (fsT K) K (cL K)) := ok_ltold S68 T k_fs
    have k_right := ok_right S69 B LC gL k_init k_pour k_taken k_mem k_lfree k_lsets k_ltold k_dim k_ifs
    have k_fs0 := ok_fs0 S55 k_some k_fset
    exact ok_law FL B LC gL k_init k_jug k_right k_ifs k_fs0
end
end K14

set_option maxHeartbeats 0
/-! the end -/
open PySem PySem.W PySem.Calls PyProof.Rows
theorem PySem.Challenge.cw_pureladders_k14_whole_free_sets_holds : PySem.Challenge.rw_pureladders_k14_whole_free_sets.Holds := by
  w_on; o_law
  refine HandSHeadRun.head_any (r := K14.HR) (q := view K14.HR.prog [70]) (H := K14.hookZ) (ob := K14.obZ) (M := 6000) (loose := K14.loose) (d := HandSHeadRun.topDef K14.HR.prog 70) (kwd := []) K14.obZ_eq
    (by kernel_rfl) (fun s => by kernel_rfl) K14.headRun (by kernel_rfl) (by kernel_rfl) (by kernel_rfl) (by rfl) (by first | assumption | decide +kernel) (by decide +kernel) ⟨rfl, rfl, rfl, rfl, rfl, by decide +kernel⟩ ?hw ?hc
  case hw => w_witness2
  case hc =>
    refine LamX.walk_ofTsE (l := PySem.Challenge.rw_pureladders_k14_whole_free_sets) (n := 63) (k := 8) (x := "_law_script") (CX := fun _ => L2.CX0) rfl (by decide) (by kernel_rfl) ⟨rfl, by decide, by decide⟩ ?F (fun _ _ _ _ _ z => z)
    intro w mg fa h Y G hmg0
    obtain ⟨K, KX, c⟩ := Y
    have hmg : mg ("law" : PySem.Str) = some (.ref fa) := by
      have e : (HandSHeadRun.topDef K14.HR.prog 70).name = ("law" : PySem.Str) := by kernel_rfl
      rw [← e]
      exact hmg0
    exact ⟨K, KX, K14.lawAt KX G c hmg⟩

