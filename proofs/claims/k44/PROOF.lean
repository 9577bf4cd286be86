import PyProof.Rows.All
import Wide.All
import OpenK.AllK
import Wide.FinOn
import KE.DataMinMax
import HandS.ForMost
import HandS.ForExc
import HandS.Defaults
import HandS.Conv
import HandS.TupAny
import HandS.IsInst
import HandS.Small
import HandS.SortKw
import HandS.Codes
import HandS.Walk
import HandS.Head0
import HandS.Head1
import HandS.Head2
import HandS.HeadEnd
import HandS.HeadHook1
import HandS.HeadHook2
import PySem.Challenge.RW_ringingchamber_k44_sums_of_lengths
set_option Elab.async false
set_option linter.all false
set_option maxRecDepth 100000
set_option maxHeartbeats 4000000
namespace RC
open PySem PySem.Spec PyProof.Rows L2

/-- a def of the top, as it stands behind it -/
def HasDef (K : PySem.W.Frag) (mg : Str → Option Value) (x : Str) (st : Stmt) : Prop :=
  ∃ (f : Addr) (fd : FuncData), FunD K x x (defArgs st) (defBody st) (defScope st) [] [] f fd ∧ mg x = some (.ref f)

/-- a def of the top that keeps a promise -/
structure Cal (P : Program) (w : World) (K : PySem.W.Frag) (mg : Str → Option Value) (base : Heap) (x : Str) (k : Nat) (ps : List Str) (sp : Sp) : Prop where
  ex : ∃ (f : Addr) (fd : FuncData), mg x = some (.ref f) ∧ PySem.W.keepIn K (.ref f) = true ∧ Binds K fd ps [] ∧ FnOk P w K mg base (L2.CX P w) k f fd ps sp

section
variable {P : Program} {w : World} {K : PySem.W.Frag} {mg : Str → Option Value} {base : Heap}
theorem Cal.of {x : Str} {st : Stmt} {N ps : List Str} {k : Nat} {sp : Sp} (h : HasDef K mg x st) (S : FnScope N ps (defScope st))
    (hb : ∀ (kV doc pm : Value) (an : Option Addr) (cdv ct : Value) (us : List Value), us.length = ps.length →
      bindArgs (PySem.W.fnOf x x (defArgs st) (defBody st) (defScope st) .none kV doc pm an cdv ct) ⟨us, []⟩ = pure (ps.zip us))
    (len : ∀ vs H Q E, sp vs H Q E → vs.length = ps.length)
    (hbody : ∀ (f : Addr) (cdv : Value) (A : Around) (outer : List Env) (s : Shared) (H : Hp) (vs : List V) (Q : VK) (E : XK), Room k (A.deeper (envOfC x (defScope st) s.heap.objs.size f cdv)) → sp vs H Q E →
      ∃ t, PSs (cxOf (L2.CX P w) P w K mg base N x (defScope st) f cdv A outer s H E) (defBody st) t ∧ t { nx := fun _ H' => Q .non H', rt := Q } (start N vs) H) : Cal P w K mg base x (k + 1) ps sp := by
  obtain ⟨f, fd, F, hm⟩ := h
  exact ⟨f, fd, hm, F.kp, F.bindsN hb, F.ok S len fun cdv A outer s H vs Q E hr hsp => hbody f cdv A outer s H vs Q E hr hsp⟩
end
/-- a call of such a def -/
theorem pe_cal {X : Cx} {x : Str} {j k : Nat} {ps : List Str} {sp : Sp} {E : XK} {e : Expr} {es : List Expr} {t : TA} {p pos : Pos} (C : Cal X.prog X.w X.K X.mg X.base x j ps sp) (hr : Room k X.A) (hx : Passes (L2.CX X.prog X.w) X E) (ha : PA X (e :: es) t)
    (hj : j ≤ k := by decide) (hg : Gl X x := by rfl) (hdb : (x == ("__debug__" : Str)) = false := by decide) (he : starEach (e :: es) X.env = (false, eval e X.env) :: starEach es X.env := by rfl) (hpl : (backTo pos (starEach es X.env)).any (·.1) = false := by rfl) :
    PE X (.Call (.Name x p) (e :: es) [] pos) (tCall sp [] E t) := by
  obtain ⟨f, fd, hm, kp, hb, F⟩ := C.ex
  exact pe_call F (hr.mono hj) hg hm kp hb .nil hx ha hdb he hpl
theorem pe_cal0 {X : Cx} {x : Str} {j k : Nat} {ps : List Str} {sp : Sp} {E : XK} {p pos : Pos} (C : Cal X.prog X.w X.K X.mg X.base x j ps sp) (hr : Room k X.A) (hx : Passes (L2.CX X.prog X.w) X E)
    (hj : j ≤ k := by decide) (hg : Gl X x := by rfl) (hdb : (x == ("__debug__" : Str)) = false := by decide) :
    PE X (.Call (.Name x p) [] [] pos) (tCall sp [] E tNil) := by
  obtain ⟨f, fd, hm, kp, hb, F⟩ := C.ex
  exact pe_call0 F (hr.mono hj) hg hm kp hb .nil hx hdb
/-- binding of one, two, .. parameters -/
theorem _root_.L2.Same.vnew {H H1 : Hp} {p : Addr} {o : HO} (h : Same H H1) (n : H1 p = none) : Same H (upd H1 p o) := fun b u e => by
  rw [upd_ne (ne_of_none (h b u e) n)]
  exact h b u e
/-- all but the object at a stands -/
def But (a : Addr) (H H' : Hp) : Prop := ∀ b o, b ≠ a → H b = some o → H' b = some o
theorem But.refl {a : Addr} {H : Hp} : But a H H := fun _ _ _ e => e
theorem But.trans {a : Addr} {H H1 H2 : Hp} (x : But a H H1) (y : But a H1 H2) : But a H H2 := fun b o n e => y b o n (x b o n e)
theorem But.of {a : Addr} {H H1 : Hp} (x : Same H H1) : But a H H1 := fun b o _ e => x b o e
theorem But.write {a : Addr} {H : Hp} {o : HO} : But a H (upd H a o) := fun b u n e => by rw [upd_ne n]; exact e
theorem But.new {a p : Addr} {H H1 : Hp} {o : HO} (x : But a H H1) (n : H1 p = none) : But a H (upd H1 p o) := fun b u nb e => by
  have e1 := x b u nb e
  rw [upd_ne (ne_of_none e1 n)]
  exact e1
theorem But.put {a : Addr} {H H1 : Hp} {o : HO} (x : But a H H1) : But a H (upd H1 a o) := x.trans .write
theorem But.fresh {a l : Addr} {H H1 : Hp} {o : HO} (x : But a H H1) (n : H l = none) : But a H (upd H1 l o) := fun b u nb e => by
  rw [upd_ne (ne_of_none e n)]
  exact x b u nb e
theorem _root_.L2.Same.fresh {l : Addr} {H H1 : Hp} {o : HO} (x : Same H H1) (n : H l = none) : Same H (L2.upd H1 l o) := fun b u e => by
  rw [upd_ne (ne_of_none e n)]
  exact x b u e
theorem But.free {a l : Addr} {H H1 : Hp} (x : But a H H1) (h : H1 l = none) (n : l ≠ a) : H l = none := by
  cases e : H l with
  | none => rfl
  | some u => rw [x l u n e] at h; cases h
theorem upd_self {H : Hp} {a : Addr} {o : HO} (h : H a = some o) : upd H a o = H := by
  funext b
  unfold L2.upd
  split
  · rename_i e
    rw [e, h]
  · rfl
theorem upd_back {H : Hp} {a : Addr} {o u : HO} (h : H a = some o) : upd (upd H a u) a o = H := by
  rw [upd_upd]
  exact upd_self h
/-- tuples stand whatever happens elsewhere -/
theorem But.tup {K : PySem.W.Frag} {a b : Addr} {H H' : Hp} {xs : List V} (x : But a H H') (h : SqT K H b xs) (n : ∀ u, H a = some u → ¬ (∃ ys, u = .tup ys) ∧ ¬ ∃ o ys, u = .frz o (.tup ys)) : SqT K H' b xs := by
  rcases h with (h | ⟨o, h⟩) | h
  · refine .inl (.inl (x b _ (fun e => ?_) h))
    subst e
    exact (n _ h).1 ⟨_, rfl⟩
  · refine .inl (.inr ⟨o, x b _ (fun e => ?_) h⟩)
    subst e
    exact (n _ h).2 ⟨_, _, rfl⟩
  · exact .inr h
theorem _root_.L2.Same.vtup {K : PySem.W.Frag} {b : Addr} {H H' : Hp} {xs : List V} (x : Same H H') (h : SqT K H b xs) : SqT K H' b xs := by
  rcases h with (h | ⟨o, h⟩) | h
  · exact .inl (.inl (x b _ h))
  · exact .inl (.inr ⟨o, x b _ h⟩)
  · exact .inr h
end RC
namespace RC
open PySem PySem.Spec PyProof.Rows L2

/-! ### operators by name -/
def oAdd : R2 := rI0 fun i j => .int (i + j)
def oSub : R2 := rI0 fun i j => .int (i - j)
def oMul : R2 := rI CMul fun i j => .int (i * j)
def oDiv : R2 := rI CDiv fun i j => .int (i / j)
def oMod : R2 := rI (fun _ j => 0 < j) fun i j => .int (i % j)
def oPow : R2 := rI CPow fun i j => .int (i ^ j.toNat)
def oLt : R2 := rI0 fun i j => .bl (decide (i < j))
def oLe : R2 := rI0 fun i j => .bl (decide (i ≤ j))
def oGt : R2 := rI0 fun i j => .bl (decide (j < i))
def oGe : R2 := rI0 fun i j => .bl (decide (j ≤ i))
def uNeg : V → Hp → VK → Prop := rU fun i => .int (-i)
def bLen (K : PySem.W.Frag) : List V → Hp → VK → Prop := fun xs H Q => ∃ p ys, xs = [.ref p] ∧ (SqL K H p ys ∨ SqT K H p ys) ∧ Q (.int ys.length) H
def bLenS : List V → Hp → VK → Prop := fun xs H Q => ∃ z, xs = [.str z] ∧ z.length ≤ sizeLine ∧ Q (.int z.length) H
def bLenD : List V → Hp → VK → Prop := fun xs H Q => ∃ (a : Addr) (kvs : List (Key × V)), xs = [V.ref a] ∧ H a = some (.dK kvs) ∧ Q (.int kvs.length) H
def bAbs : List V → Hp → VK → Prop := fun xs H Q => ∃ i, xs = [.int i] ∧ Q (.int (if i < 0 then -i else i)) H
def bInt : List V → Hp → VK → Prop := fun xs H Q => (∃ i, xs = [.int i] ∧ Q (.int i) H) ∨ ∃ k, xs = [.bl k] ∧ Q (.int (if k then 1 else 0)) H
def bTup (K : PySem.W.Frag) : List V → Hp → VK → Prop := fun xs H Q => ∃ p ys, xs = [.ref p] ∧ ((SqL K H p ys ∧ ∀ l, H l = none → Q (.ref l) (upd H l (.tup ys))) ∨ (SqT K H p ys ∧ Q (.ref p) H))
def bList (K : PySem.W.Frag) : List V → Hp → VK → Prop := fun xs H Q => ∃ p ys, xs = [.ref p] ∧ (SqL K H p ys ∨ SqT K H p ys) ∧ ∀ l, H l = none → Q (.ref l) (upd H l (.lst ys))
def bMin2 : List V → Hp → VK → Prop := fun xs H Q => ∃ i j, xs = [.int i, .int j] ∧ Q (.int (if j < i then j else i)) H
def bMax2 : List V → Hp → VK → Prop := fun xs H Q => ∃ i j, xs = [.int i, .int j] ∧ Q (.int (if j > i then j else i)) H
section
variable {X : Cx}
theorem w_add : OpR X (binaryOp .Add) oAdd := op_add
theorem w_sub : OpR X (binaryOp .Sub) oSub := op_sub
theorem w_mul : OpR X (binaryOp .Mult) oMul := op_mul
theorem w_fdiv : OpR X (binaryOp .FloorDiv) oDiv := op_fdiv
theorem w_mod : OpR X (binaryOp .Mod) oMod := op_mod
theorem w_pow : OpR X (binaryOp .Pow) oPow := op_pow
theorem w_lt : OpR X (compareOp .Lt) oLt := op_lt
theorem w_le : OpR X (compareOp .LtE) oLe := op_le
theorem w_gt : OpR X (compareOp .Gt) oGt := op_gt
theorem w_ge : OpR X (compareOp .GtE) oGe := op_ge
theorem w_neg : UnR X (unaryOp .USub) uNeg := un_neg
theorem w_len : CallR X (.builtin "len") (bLen X.K) := call_len_seq
theorem w_lenS : CallR X (.builtin "len") bLenS := call_len_str
theorem w_lenD : CallR X (.builtin "len") bLenD := call_lenD
theorem w_abs : CallR X (.builtin "abs") bAbs := call_abs
theorem w_int : CallR X (.type "int") bInt := call_int1
theorem w_tup : CallR X (.type "tuple") (bTup X.K) := call_tuple_of
theorem w_list : CallR X (.type "list") (bList X.K) := call_list_of
theorem w_min2 (hc : X.calm = true) : CallR X (.builtin "min") bMin2 := call_min2 hc
theorem w_max2 (hc : X.calm = true) : CallR X (.builtin "max") bMax2 := call_max2 hc

/-! ### max(xs, default=d), min(xs, default=d) of ints -/
def bMaxD (K : PySem.W.Frag) : List V → List V → Hp → VK → Prop := fun xs zs H Q => ∃ (a : Addr) (ns : List Int) (d : V), xs = [.ref a] ∧ zs = [d] ∧ (SqT K H a (ns.map V.int) ∨ SqL K H a (ns.map V.int)) ∧
  (ns = [] → Q d H) ∧ ∀ n r, ns = n :: r → Q (.int (r.foldl max n)) H
def bMinD (K : PySem.W.Frag) : List V → List V → Hp → VK → Prop := fun xs zs H Q => ∃ (a : Addr) (ns : List Int) (d : V), xs = [.ref a] ∧ zs = [d] ∧ (SqT K H a (ns.map V.int) ∨ SqL K H a (ns.map V.int)) ∧
  (ns = [] → Q d H) ∧ ∀ n r, ns = n :: r → Q (.int (r.foldl min n)) H
theorem alike_all (ns : List Int) : PySem.W.AlikeAll (ns.map PyData.int) := by
  refine ⟨fun x hx y hy => ?_, fun x hx => ?_⟩
  · obtain ⟨i, _, rfl⟩ := List.mem_map.mp hx
    obtain ⟨j, _, rfl⟩ := List.mem_map.mp hy
    rfl
  · obtain ⟨i, _, rfl⟩ := List.mem_map.mp hx
    intro e
    cases e
theorem depth_ints : ∀ ns : List Int, PyData.depthAll (ns.map PyData.int) = 0
  | [] => rfl
  | n :: r => by
    show max 0 (PyData.depthAll (r.map PyData.int)) = 0
    rw [depth_ints r]
    rfl
theorem w_maxD (hc : X.calm = true) (hu : X.A.units + 1 < cLine) : CallRK X (.builtin "max") [Str.ofString "default"] (bMaxD X.K) := by
  intro pins s σ H xs zs us ws Q I r rz h
  obtain ⟨a, ns, d, rfl, rfl, hs, h0, h1⟩ := h
  rw [Vals.ref1 r]
  obtain ⟨dv, rfl, rd⟩ := vals1 rz
  have fin : ∀ (y : PyData) (ys : List PyData) (v : Value) (h' : Heap) (tk : Nat) (bs : List Addr), ns.map PyData.int = y :: ys → Reads h' v (PySem.W.maxD y ys) bs → (∀ b o, s.heap.get? b = some o → h'.get? b = some o) →
      EP X pins σ Q v { s with heap := h', toks := tk } := fun y ys v h' tk bs e rr hk => by
    cases ns with
    | nil => cases e
    | cons n r =>
      have e1 : PyData.int n = y := by injection e
      have e2 : r.map PyData.int = ys := by injection e
      subst e1 e2
      rw [PySem.W.maxD_ints] at rr
      cases rr
      exact ⟨.int _, H, I.kept hk, ⟨_, rfl⟩, h1 n r rfl⟩
  rcases hs with hs | hs
  · obtain ⟨its, rv, ht, hz⟩ := I.tuple hs
    refine PySem.W.max_tuple_default (I.ok.hd hc) ht (rv.ints.reads s.heap) (alike_all ns) (by rw [depth_ints]; exact hu) (fun e h' tk hk => ?_) fun y ys i v h' tk bs e _ rr hk => fin y ys v h' tk bs e rr hk
    exact ⟨d, H, I.kept hk, rd, h0 (by simpa using e)⟩
  · obtain ⟨its, rv, hl, _⟩ := I.list hs
    refine PySem.W.max_list_default (I.ok.hd hc) hl.isList (rv.ints.reads s.heap) (alike_all ns) (by rw [depth_ints]; exact hu) (fun e h' tk hk => ?_) fun y ys i v h' tk bs e _ rr hk => fin y ys v h' tk bs e rr hk
    exact ⟨d, H, I.kept hk, rd, h0 (by simpa using e)⟩
theorem w_minD (hc : X.calm = true) (hu : X.A.units + 1 < cLine) : CallRK X (.builtin "min") [Str.ofString "default"] (bMinD X.K) := by
  intro pins s σ H xs zs us ws Q I r rz h
  obtain ⟨a, ns, d, rfl, rfl, hs, h0, h1⟩ := h
  rw [Vals.ref1 r]
  obtain ⟨dv, rfl, rd⟩ := vals1 rz
  have fin : ∀ (y : PyData) (ys : List PyData) (v : Value) (h' : Heap) (tk : Nat) (bs : List Addr), ns.map PyData.int = y :: ys → Reads h' v (PySem.W.minD y ys) bs → (∀ b o, s.heap.get? b = some o → h'.get? b = some o) →
      EP X pins σ Q v { s with heap := h', toks := tk } := fun y ys v h' tk bs e rr hk => by
    cases ns with
    | nil => cases e
    | cons n r =>
      have e1 : PyData.int n = y := by injection e
      have e2 : r.map PyData.int = ys := by injection e
      subst e1 e2
      rw [PySem.W.minD_ints] at rr
      cases rr
      exact ⟨.int _, H, I.kept hk, ⟨_, rfl⟩, h1 n r rfl⟩
  rcases hs with hs | hs
  · obtain ⟨its, rv, ht, hz⟩ := I.tuple hs
    refine PySem.W.min_tuple_default (I.ok.hd hc) ht (rv.ints.reads s.heap) (alike_all ns) (by rw [depth_ints]; exact hu) (fun e h' tk hk => ?_) fun y ys i v h' tk bs e _ rr hk => fin y ys v h' tk bs e rr hk
    exact ⟨d, H, I.kept hk, rd, h0 (by simpa using e)⟩
  · obtain ⟨its, rv, hl, _⟩ := I.list hs
    refine PySem.W.min_list_default (I.ok.hd hc) hl.isList (rv.ints.reads s.heap) (alike_all ns) (by rw [depth_ints]; exact hu) (fun e h' tk hk => ?_) fun y ys i v h' tk bs e _ rr hk => fin y ys v h' tk bs e rr hk
    exact ⟨d, H, I.kept hk, rd, h0 (by simpa using e)⟩
end
end RC
namespace RC
open PySem PySem.Spec PyProof.Rows L2 HT
theorem adjust_back (n : Nat) : Builtin.Slice.sliceAdjust none none (-1) (n : Int) = ((n : Int) - 1, -1) := by
  unfold Builtin.Slice.sliceAdjust
  first | rfl | simp
theorem places_back (n : Nat) : Builtin.Slice.slicePlaces ((n : Int) - 1) (-1) (-1) = n := by
  unfold Builtin.Slice.slicePlaces
  have h1 : ¬ ((-1 : Int) > 0) := by omega
  simp only [h1, if_false]
  have e : ((n : Int) - 1 - -1 - 1) / (- -1) = (n : Int) - 1 := by
    rw [show (- -1 : Int) = 1 by decide, Int.ediv_one]
    omega
  rw [e]
  split <;> omega
theorem krevf {β : Type} (n : Nat) (f : Nat → Option β) : (List.range n).filterMap (fun (m : Nat) => f ((n : Int) - 1 + (m : Int) * -1).toNat) = ((List.range n).map fun k => n - 1 - k).filterMap f := by
  rw [List.filterMap_map]
  have : ∀ (l : List Nat), (∀ m ∈ l, m < n) → l.filterMap (fun (m : Nat) => f ((n : Int) - 1 + (m : Int) * -1).toNat) = l.filterMap (f ∘ fun k => n - 1 - k) := by
    intro l
    induction l with
    | nil => intro _; rfl
    | cons a r ih =>
      intro h
      have ha := h a List.mem_cons_self
      have e : ((n : Int) - 1 + (a : Int) * -1).toNat = n - 1 - a := by omega
      rw [List.filterMap_cons, List.filterMap_cons, ih fun m hm => h m (List.mem_cons_of_mem _ hm)]
      simp only [Function.comp, e]
  exact this _ fun m hm => List.mem_range.mp hm
theorem pick_back (xs : Array Value) : ((List.range xs.size).filterMap fun (m : Nat) => xs[((xs.size : Int) - 1 + (m : Int) * -1).toNat]?).toArray = xs.toList.reverse.toArray := by
  have e : (List.range xs.size).filterMap (fun (m : Nat) => xs[((xs.size : Int) - 1 + (m : Int) * -1).toNat]?) = ((List.range xs.size).map fun k => xs.size - 1 - k).filterMap (xs[·]?) := by
    rw [← krevf xs.size fun k => xs[k]?]
  rw [e, PySem.W.krv_range, List.filterMap_reverse, PySem.W.krv_all]
section
variable {prog : Program} {w : World} {A : Around} {E : Value → Shared → Prop} {s : Shared}
theorem getItem_tuple_rev {t sl : Addr} {items : Array Value} {vs : Value} {Q : Value → Shared → Prop} (ht : IsTup s.heap t items) (hs : s.heap.IsSliceOf sl .none .none vs) (ps : IsPart vs (some (-1)))
    (h : Q (.ref s.heap.objs.size) { s with heap := s.heap.push { cls := .type "tuple", data := .seq items.toList.reverse.toArray } })
    (hsz : items.size ≤ sizeLine) : wpAny (model prog w) A (getItem (.ref t) (.ref sl)) Q E s := by
  have htake : sizeOk (.seq items.toList.reverse.toArray) := by
    show items.toList.reverse.toArray.size ≤ sizeLine
    rw [List.size_toArray, List.length_reverse, Array.length_toList]
    exact hsz
  obtain ⟨os, hos, hcs, hds⟩ := id hs
  have hTs : s.TypeIs (.ref sl) "slice" := ⟨os, hos, hcs⟩
  unfold getItem
  try with_reducible refine wpAny_holding ?_
  first | refine wpAny_bind (wpAny_pure ?_) | skip
  refine wpAny_bind (wpAny_sequenceKey ht.typeIs (by decide) ?_)
  refine wpAny_bind (wpAny_callSpecial?_slot (name := Str.ofString "__getitem__") ht.typeIs PyProof.Rows.slot_tuple_getitem
    (wpAny_call_entry PyProof.Rows.slot_tuple_getitem ht.typeIs entry_tuple_getitem ?_ (args_tuple_getitem _ _)))
  show wpAny _ _ (Builtin.Tuple.tupleItemsOf (.ref t) >>= _) _ _ s
  refine wpAny_bind (tupleItemsOf_ ht ?_)
  refine wpAny_bind (wpAny_typeOf hTs ?_)
  rw [if_pos (by decide)]
  have step : ∀ {A : Around} {E : Value → Shared → Prop} {Q' : Int × Int × Nat → Shared → Prop}, Q' ((items.size : Int) - 1, -1, items.size) s → wpAny (model prog w) A (Builtin.Slice.sliceApplied (.ref sl) (pure (items.size : Int))) Q' E s := fun {A E Q'} q => by
    unfold Builtin.Slice.sliceApplied Builtin.Slice.sliceFields
    refine wpAny_bind (wpAny_bind (wpAny_field hos hds (x := .none) rfl (wpAny_bind (wpAny_field hos hds (x := .none) rfl (wpAny_bind (wpAny_field hos hds (x := vs) rfl (wpAny_pure ?_)))))))
    refine wpAny_bind (slicePart_ ps ?_)
    show wpAny _ _ (if ((-1 : Int) == 0) = true then _ else _) _ _ s
    rw [if_neg (by decide)]
    refine wpAny_bind (slicePart_ .none (wpAny_bind (slicePart_ .none (wpAny_bind (wpAny_pure ?_)))))
    show wpAny _ _ (match Builtin.Slice.sliceAdjust none none (-1) (items.size : Int) with | (lo, hi) => pure (lo, (-1 : Int), Builtin.Slice.slicePlaces lo hi (-1))) _ _ s
    rw [adjust_back]
    show wpAny _ _ (pure ((items.size : Int) - 1, (-1 : Int), Builtin.Slice.slicePlaces ((items.size : Int) - 1) (-1) (-1))) _ _ s
    rw [places_back]
    exact wpAny_pure q
  refine wpAny_bind (step ?_)
  have hno : ¬ ((((items.size : Int) - 1) == 0 && (-1 : Int) == 1 && items.size == items.size) = true) := by simp
  show wpAny _ _ (if ((((items.size : Int) - 1) == 0 && (-1 : Int) == 1 && items.size == items.size)) = true then _ else _) _ _ s
  rw [if_neg hno, pick_back]
  first
    | exact wpAny_bind (m := Builtin.Tuple.tupleExact _) (wpAny_newObj_type (wpAny_pure ⟨_, rfl, wpAny_pure h⟩) htake)
    | exact wpAny_bind (m := Builtin.Tuple.tupleExact _) (wpAny_newObj_type (wpAny_bind (wpAny_pure (wpAny_pure ⟨_, rfl, wpAny_pure h⟩))) htake)
    | exact wpAny_bind (wpAny_bind (m := Builtin.Tuple.tupleExact _) (wpAny_newObj_type (wpAny_pure (wpAny_pure ⟨_, rfl, wpAny_pure h⟩)) htake))
    | exact wpAny_bind (wpAny_bind (m := Builtin.Tuple.tupleExact _) (wpAny_newObj_type (wpAny_pure ⟨_, rfl, wpAny_pure h⟩) htake))
end
section
variable {X : Cx}
/-- t[::-1] of a tuple -/
def tRevT (K : PySem.W.Frag) (te : TE) : TE := fun σ H Q => te σ H fun x H1 => ∃ a xs, x = .ref a ∧ SqT K H1 a xs ∧ ∀ p, H1 p = none → Q (.ref p) (upd H1 p (.tup xs.reverse))
theorem pe_revT {e : Expr} {te : TE} {k : Nat} {p1 p2 p3 pos : Pos} (he : PE X e te) : PE X (.Subscript e (.Slice none none (some (.UnaryOp .USub (.Constant (.int 1) k p1) p2)) p3) pos) (tRevT X.K te) := by
  refine ⟨fun pins s σ H Q I h => ?_⟩
  refine Subscript_ (thn (he.run pins s σ H _ I h) fun v s1 ⟨x, H1, I1, r1, q1⟩ => ?_)
  obtain ⟨a, xs, ex, hx, q⟩ := q1
  subst ex
  cases r1
  have hst : PO X (some (.UnaryOp .USub (.Constant (.int 1) k p1) p2)) (tPart (tUn (rU fun i => .int (-i)) (tC (.int 1)))) := po_some (pe_un un_neg pe_int)
  refine wpAny_Slice (thn (po_none.run pins s1 σ H1 (fun o H2 => o = none ∧ H2 = H1) I1 ⟨rfl, rfl⟩) fun vl s2 ⟨l, H2, I2, pl, el, e2⟩ => ?_)
  subst el e2
  refine thn (po_none.run pins s2 σ H2 (fun o H3 => o = none ∧ H3 = H2) I2 ⟨rfl, rfl⟩) fun vu s3 ⟨u, H3, I3, pu, eu, e3⟩ => ?_
  subst eu e3
  refine thn (hst.run pins s3 σ H3 (fun o H4 => o = some (-1) ∧ H4 = H3) I3 ⟨1, rfl, -1, rfl, rfl, rfl⟩) fun vs s4 ⟨o, H4, I4, ps, eo, e4⟩ => ?_
  subst eo e4
  cases pl
  cases pu
  have I5 : Inv X pins σ H4 { s4 with heap := s4.heap.push { cls := .type "slice", data := .fields #[.none, .none, vs] } } := I4.kept (t' := s4.toks) fun b ob q => Heap.get?_push_of_some _ q
  obtain ⟨its, r, ht, hz⟩ := I5.tuple hx
  have hlen := r.length
  show wpAny (model X.prog X.w) X.A (subscriptTail e (.Slice none none (some (.UnaryOp .USub (.Constant (.int 1) k p1) p2)) p3) (.ref a) (.ref s4.heap.objs.size)) (EP X pins σ Q) X.xe { s4 with heap := s4.heap.push { cls := .type "slice", data := .fields #[.none, .none, vs] } }
  refine tail_any (ops := [.ref a, .ref s4.heap.objs.size]) ht.typeIs (PyProof.Rows.slot_tuple_getitem.lookup) ?_ (by with_unfolding_all rfl)
  refine getItem_tuple_rev ht (Heap.IsSliceOf.new _ .none .none vs) ps ?_ (by rw [List.size_toArray]; omega)
  refine ⟨.ref _, _, I5.laid (t' := s4.toks) (o := .tup xs.reverse) (fun b ob q => Heap.get?_push_of_some _ q) (Nat.le_refl _) ?_, rfl, q _ (I5.hok.fresh (Nat.le_refl _))⟩
  exact ⟨by rw [List.length_reverse]; exact hz, _, r.reverse, IsTup.new _ _⟩
end
end RC
namespace RC
open PySem PySem.Spec PyProof.Rows L2
section
variable {K : PySem.W.Frag} {σ : L2.St} {H : Hp} {D : Ends} {Q : VK} {t u : TS} {te ta tb : TE} {tl : TA} {g : TG} {i : Nat} {v : V}
/-! ### statements -/
theorem v_seq (h : t { D with nx := u D } σ H) : tSeq t u D σ H := h
theorem v_asg (h : te σ H fun x H1 => g x σ H1 D.nx) : tAsg te g D σ H := h
theorem v_gName {R : L2.St → Hp → Prop} {σ' : L2.St} (e : σ.set i (some v) = σ') (h : R σ' H) : gName i v σ H R := by subst e; exact h
theorem v_ret (h : te σ H D.rt) : tRet te D σ H := h
theorem v_retN (h : D.rt .non H) : tRetN D σ H := h
theorem v_next (h : D.nx σ H) : tNext D σ H := h
theorem v_drop (h : te σ H fun _ H1 => D.nx σ H1) : tDrop te D σ H := h
theorem v_if {c : TT} (h : c σ H fun b H1 => if b = true then t D σ H1 else u D σ H1) : tIfS c t u D σ H := h
/-- two statements joined by what holds between them -/
def tJoin (t u : TS) : TS := fun D σ H => ∃ Mid : L2.St → Hp → Prop, t { D with nx := Mid } σ H ∧ ∀ σ' H', Mid σ' H' → u D σ' H'
theorem pss_join {X : Cx} {st : Stmt} {rest : List Stmt} (h1 : PS X st t) (h2 : PSs X rest u) : PSs X (st :: rest) (tJoin t u) := by
  refine ⟨fun pins s σ H D I h => ?_⟩
  obtain ⟨Mid, h, hm⟩ := h
  refine wpAny_execs_cons (thn (h1.run pins s σ H { D with nx := Mid } I h) fun f s1 q => ?_)
  cases f with
  | next =>
    obtain ⟨σ', H', I', q⟩ := q
    exact h2.run pins s1 σ' H' D I' (hm σ' H' q)
  | ret v => exact q
  | brk => exact q
  | cont => exact q
theorem v_join (Mid : L2.St → Hp → Prop) (h1 : t { D with nx := Mid } σ H) (h2 : ∀ σ' H', Mid σ' H' → u D σ' H') : tJoin t u D σ H := ⟨Mid, h1, h2⟩
/-! ### tests -/
theorem v_test {R : Bool → Hp → Prop} (h : te σ H fun x H' => ∃ k, x = .bl k ∧ R k H') : tTest te σ H R := h
theorem v_tB {R : Bool → Hp → Prop} (h : te σ H fun x H' => ∃ k, x = .bl k ∧ R k H') : tB te σ H R := h
theorem v_bl {b : Bool} {R : Bool → Prop} (h : R b) : ∃ k, V.bl b = V.bl k ∧ R k := ⟨b, rfl, h⟩
theorem v_not {c : TT} {R : Bool → Hp → Prop} (h : c σ H fun b H1 => R (!b) H1) : tNot c σ H R := h
theorem v_and {c d : TT} {R : Bool → Hp → Prop} (h : c σ H fun b H1 => if b = true then d σ H1 R else R false H1) : tAnd c d σ H R := h
theorem v_or {c d : TT} {R : Bool → Hp → Prop} (h : c σ H fun b H1 => if b = true then R true H1 else d σ H1 R) : tOr c d σ H R := h
theorem v_andV (h : ta σ H fun x H1 => ∃ c, x = .bl c ∧ if c = true then tb σ H1 Q else Q (.bl false) H1) : tAndV ta tb σ H Q := h
theorem v_orV (h : ta σ H fun x H1 => ∃ c, x = .bl c ∧ if c = true then Q (.bl true) H1 else tb σ H1 Q) : tOrV ta tb σ H Q := h
theorem v_notV (h : ta σ H fun x H1 => ∃ c, x = .bl c ∧ Q (.bl (!c)) H1) : tNotV ta σ H Q := h
theorem v_ifE {c : TT} (h : c σ H fun b H1 => if b = true then ta σ H1 Q else tb σ H1 Q) : tIf c ta tb σ H Q := h
/-- a decided if -/
theorem v_dec {p : Prop} [Decidable p] {A B : Prop} (h1 : p → A) (h2 : ¬ p → B) : if decide p = true then A else B := by
  by_cases h : p
  · rw [if_pos (decide_eq_true h)]; exact h1 h
  · rw [if_neg (by rw [decide_eq_false h]; exact Bool.false_ne_true)]; exact h2 h
theorem v_decN {p : Prop} [Decidable p] {A B : Prop} (h1 : ¬ p → A) (h2 : p → B) : if (!decide p) = true then A else B := by
  by_cases h : p
  · rw [if_neg (by rw [decide_eq_true h]; exact Bool.false_ne_true)]; exact h2 h
  · rw [if_pos (by rw [decide_eq_false h]; rfl)]; exact h1 h
theorem v_decI {a b : Int} {A B : Prop} (h1 : a = b → A) (h2 : ¬ a = b → B) : if decide (V.int a = V.int b) = true then A else B :=
  v_dec (fun h => h1 (V.int.inj h)) fun h => h2 fun e => h (by rw [e])
theorem v_decIN {a b : Int} {A B : Prop} (h1 : ¬ a = b → A) (h2 : a = b → B) : if (!decide (V.int a = V.int b)) = true then A else B :=
  v_decN (fun h => h1 fun e => h (by rw [e])) fun h => h2 (V.int.inj h)
theorem v_ite {b : Bool} {A B : Prop} (h1 : b = true → A) (h2 : b = false → B) : if b = true then A else B := by
  cases b
  · rw [if_neg Bool.false_ne_true]; exact h2 rfl
  · rw [if_pos rfl]; exact h1 rfl
theorem v_iteN {b : Bool} {A B : Prop} (h1 : b = false → A) (h2 : b = true → B) : if (!b) = true then A else B := by
  cases b
  · exact (if_pos (show (!false) = true from rfl)).mpr (h1 rfl)
  · exact (if_neg (show ¬ (!true) = true from Bool.false_ne_true)).mpr (h2 rfl)
theorem v_iteT {A B : Prop} (h : A) : if true = true then A else B := by rw [if_pos rfl]; exact h
theorem v_iteNT {A B : Prop} (h : B) : if (!true) = true then A else B := h
theorem v_iteNF {A B : Prop} (h : A) : if (!false) = true then A else B := h
theorem v_iteF {A B : Prop} (h : B) : if false = true then A else B := by rw [if_neg Bool.false_ne_true]; exact h
/-! ### expressions -/
theorem v_var (e : σ[i]? = some (some v)) (h : Q v H) : tVar i σ H Q := ⟨v, e, h⟩
theorem v_C (h : Q v H) : tC v σ H Q := h
theorem v_op {r : R2} (h : ta σ H fun x H1 => tb σ H1 fun y H2 => r x y H2 Q) : tOp r ta tb σ H Q := h
theorem v_un {r : V → Hp → VK → Prop} (h : ta σ H fun x H1 => r x H1 Q) : tUn r ta σ H Q := h
theorem v_CB {r : List V → Hp → VK → Prop} (h : tl σ H fun vs H1 => r vs H1 Q) : tCB r tl σ H Q := h
theorem v_CKw {r : List V → List V → Hp → VK → Prop} {tk : TA} (h : tl σ H fun vs H1 => tk σ H1 fun zs H2 => r vs zs H2 Q) : tCKw r tl tk σ H Q := h
theorem v_nil {R : List V → Hp → Prop} (h : R [] H) : tNil σ H R := h
theorem v_cons {R : List V → Hp → Prop} (h : te σ H fun x H1 => tl σ H1 fun xs H2 => R (x :: xs) H2) : tCons te tl σ H R := h
theorem v_call {sp : Sp} {E : XK} (h : tl σ H fun vs H1 => sp vs H1 Q E) : tCall sp [] E tl σ H Q := by
  show tl σ H fun vs H1 => sp (vs ++ []) H1 Q E
  have e : (fun (vs : List V) (H1 : Hp) => sp (vs ++ []) H1 Q E) = fun vs H1 => sp vs H1 Q E := by
    funext vs H1
    rw [List.append_nil]
  rw [e]
  exact h
theorem v_tup (h : tl σ H fun xs H1 => xs.length ≤ sizeLine ∧ ∀ p, H1 p = none → Q (.ref p) (upd H1 p (.tup xs))) : tTup tl σ H Q := h
theorem v_lst (h : tl σ H fun xs H1 => xs.length ≤ sizeLine ∧ ∀ p, H1 p = none → Q (.ref p) (upd H1 p (.lst xs))) : tLst tl σ H Q := h
theorem v_revT (h : te σ H fun x H1 => ∃ a xs, x = .ref a ∧ SqT K H1 a xs ∧ ∀ p, H1 p = none → Q (.ref p) (upd H1 p (.tup xs.reverse))) : tRevT K te σ H Q := h
theorem v_sl {r : V → Option Int → Option Int → Hp → VK → Prop} {tl th : L2.TO} (h : te σ H fun x H1 => tl σ H1 fun l H2 => th σ H2 fun u H3 => r x l u H3 Q) : tSl r te tl th σ H Q := h
theorem v_noPart {R : Option Int → Hp → Prop} (h : R none H) : tNoPart σ H R := h
theorem v_part {R : Option Int → Hp → Prop} (h : te σ H fun x H1 => ∃ i, x = .int i ∧ R (some i) H1) : tPart te σ H R := h
theorem v_partI {R : Int → Prop} {i : Int} (h : R i) : ∃ j, V.int i = V.int j ∧ R j := ⟨i, rfl, h⟩
/-! ### operators -/
theorem v_add {a b : Int} (h : Q (.int (a + b)) H) : oAdd (.int a) (.int b) H Q := ⟨a, b, rfl, rfl, h⟩
theorem v_sub {a b : Int} (h : Q (.int (a - b)) H) : oSub (.int a) (.int b) H Q := ⟨a, b, rfl, rfl, h⟩
theorem v_mul {a b : Int} (c : (-(2 ^ 64) < a ∧ a < 2 ^ 64) ∨ (-(2 ^ 64) < b ∧ b < 2 ^ 64)) (h : Q (.int (a * b)) H) : oMul (.int a) (.int b) H Q := ⟨a, b, rfl, rfl, c, h⟩
theorem v_div {a b : Int} (c : 0 < b ∧ b < 2 ^ 30) (h : Q (.int (a / b)) H) : oDiv (.int a) (.int b) H Q := ⟨a, b, rfl, rfl, ⟨by omega, by omega⟩, h⟩
theorem v_mod {a b : Int} (c : 0 < b) (h : Q (.int (a % b)) H) : oMod (.int a) (.int b) H Q := ⟨a, b, rfl, rfl, c, h⟩
theorem v_pow {a b : Int} (c : CPow a b) (h : Q (.int (a ^ b.toNat)) H) : oPow (.int a) (.int b) H Q := ⟨a, b, rfl, rfl, c, h⟩
theorem v_lt {a b : Int} (h : Q (.bl (decide (a < b))) H) : oLt (.int a) (.int b) H Q := ⟨a, b, rfl, rfl, h⟩
theorem v_le {a b : Int} (h : Q (.bl (decide (a ≤ b))) H) : oLe (.int a) (.int b) H Q := ⟨a, b, rfl, rfl, h⟩
theorem v_gt {a b : Int} (h : Q (.bl (decide (b < a))) H) : oGt (.int a) (.int b) H Q := ⟨a, b, rfl, rfl, h⟩
theorem v_ge {a b : Int} (h : Q (.bl (decide (b ≤ a))) H) : oGe (.int a) (.int b) H Q := ⟨a, b, rfl, rfl, h⟩
theorem v_eq {x y : V} (c : scal x y = true) (h : Q (.bl (decide (x = y))) H) : rEq x y H Q := ⟨c, h⟩
theorem v_ne {x y : V} (c : scal x y = true) (h : Q (.bl (!decide (x = y))) H) : rNe x y H Q := ⟨c, h⟩
theorem v_neg {a : Int} (h : Q (.int (-a)) H) : uNeg (.int a) H Q := ⟨a, rfl, h⟩
theorem v_lenL {p : Addr} {ys : List V} (c : SqL K H p ys) (h : Q (.int ys.length) H) : bLen K [.ref p] H Q := ⟨p, ys, rfl, .inl c, h⟩
theorem v_lenT {p : Addr} {ys : List V} (c : SqT K H p ys) (h : Q (.int ys.length) H) : bLen K [.ref p] H Q := ⟨p, ys, rfl, .inr c, h⟩
theorem v_lenS {z : Str} (c : z.length ≤ sizeLine) (h : Q (.int z.length) H) : bLenS [.str z] H Q := ⟨z, rfl, c, h⟩
theorem v_lenD {p : Addr} {kvs : List (Key × V)} (c : H p = some (.dK kvs)) (h : Q (.int kvs.length) H) : bLenD [.ref p] H Q := ⟨p, kvs, rfl, c, h⟩
theorem v_abs {a : Int} (h : Q (.int (if a < 0 then -a else a)) H) : bAbs [.int a] H Q := ⟨a, rfl, h⟩
theorem v_int {a : Int} (h : Q (.int a) H) : bInt [.int a] H Q := .inl ⟨a, rfl, h⟩
theorem v_intB {b : Bool} (h : Q (.int (if b then 1 else 0)) H) : bInt [.bl b] H Q := .inr ⟨b, rfl, h⟩
theorem v_min2 {a b : Int} (h : Q (.int (if b < a then b else a)) H) : bMin2 [.int a, .int b] H Q := ⟨a, b, rfl, h⟩
theorem v_max2 {a b : Int} (h : Q (.int (if b > a then b else a)) H) : bMax2 [.int a, .int b] H Q := ⟨a, b, rfl, h⟩
theorem v_tupL {p : Addr} {ys : List V} (c : SqL K H p ys) (h : ∀ l, H l = none → Q (.ref l) (upd H l (.tup ys))) : bTup K [.ref p] H Q := ⟨p, ys, rfl, .inl ⟨c, h⟩⟩
theorem v_tupT {p : Addr} {ys : List V} (c : SqT K H p ys) (h : Q (.ref p) H) : bTup K [.ref p] H Q := ⟨p, ys, rfl, .inr ⟨c, h⟩⟩
theorem v_listL {p : Addr} {ys : List V} (c : SqL K H p ys) (h : ∀ l, H l = none → Q (.ref l) (upd H l (.lst ys))) : bList K [.ref p] H Q := ⟨p, ys, rfl, .inl c, h⟩
theorem v_listT {p : Addr} {ys : List V} (c : SqT K H p ys) (h : ∀ l, H l = none → Q (.ref l) (upd H l (.lst ys))) : bList K [.ref p] H Q := ⟨p, ys, rfl, .inr c, h⟩
theorem v_ixL {p : Addr} {xs : List V} {i : Int} {v : V} (c : SqL K H p xs) (e : atI xs i = some v) (h : Q v H) : rIxL K (.ref p) (.int i) H Q := ⟨p, xs, i, v, rfl, rfl, c, e, h⟩
theorem v_ixT {p : Addr} {xs : List V} {i : Int} {v : V} (c : SqT K H p xs) (e : atI xs i = some v) (h : Q v H) : rIxT K (.ref p) (.int i) H Q := ⟨p, xs, i, v, rfl, rfl, c, e, h⟩
theorem v_setL {p : Addr} {xs : List V} {k : Int} {j : Nat} {v : V} {R : Hp → Prop} (c : H p = some (.lst xs)) (e : ixN xs.length k = some j) (h : R (upd H p (.lst (xs.set j v)))) : rSetL (.ref p) (.int k) v H R := ⟨p, xs, k, j, rfl, rfl, c, e, h⟩
theorem v_gSub {to ti : TE} {ts : TSet} {R : L2.St → Hp → Prop} (h : to σ H fun o H1 => ti σ H1 fun i H2 => ts o i v H2 fun H3 => R σ H3) : gSub to ti ts v σ H R := h
theorem v_BM {T : String} {r : V → List V → Hp → VK → Prop} (h : ta σ H fun x H1 => tyV K T x H1 ∧ tl σ H1 fun xs H2 => r x xs H2 Q) : tBM K T r ta tl σ H Q := h
theorem v_BM0 {T : String} {r : V → List V → Hp → VK → Prop} (h : ta σ H fun x H1 => tyV K T x H1 ∧ r x [] H1 Q) : tBM0 K T r ta σ H Q := h
theorem v_isL {p : Addr} {xs : List V} {R : Prop} (c : SqL K H p xs) (h : R) : tyV K "list" (.ref p) H ∧ R := ⟨.inl ⟨rfl, _, c⟩, h⟩
theorem v_append {l : Addr} {xs : List V} {y : V} (c : H l = some (.lst xs)) (z : xs.length < sizeLine) (h : Q .non (upd H l (.lst (xs ++ [y])))) : rAppend (.ref l) [y] H Q := ⟨l, xs, y, rfl, rfl, c, z, h⟩
theorem v_new {P : Prop} {o : Hp → Addr → Hp} {n : Nat} (c : n ≤ sizeLine) (h : P) : n ≤ sizeLine ∧ P := ⟨c, h⟩
theorem v_dput {td ty tv : TE} (h : tv σ H fun v H1 => td σ H1 fun x H2 => ty σ H2 fun y H3 => ∃ a H4, x = .ref a ∧ DPut H3 a y v H4 ∧ D.nx σ H4) : sDPut td ty tv D σ H := h
theorem v_dputI {a : Addr} {kvs : List (Key × V)} {k : Int} {v : V} {R : Hp → Prop} (c : H a = some (.dK kvs)) (z : kvs.length < sizeLine) (h : R (upd H a (.dK (putK kvs (Sum.inl k) v)))) :
    ∃ b H4, V.ref a = .ref b ∧ DPut H b (.int k) v H4 ∧ R H4 := ⟨a, _, rfl, DPut.k (k := Sum.inl k) c z, h⟩
theorem v_dget {td ty : TE} (h : td σ H fun x H1 => ty σ H1 fun y H2 => ∃ a v, x = .ref a ∧ DGet H2 a y (some v) ∧ Q v H2) : tDGet td ty σ H Q := h
theorem v_dgetI {a : Addr} {kvs : List (Key × V)} {k : Int} {v : V} {R : V → Prop} (c : Rd H a (.dK kvs)) (e : valV kvs (Sum.inl k) = some v) (h : R v) : ∃ b w, V.ref a = .ref b ∧ DGet H b (.int k) (some w) ∧ R w :=
  ⟨a, v, rfl, .inl ⟨kvs, Sum.inl k, c, rfl, e.symm⟩, h⟩
theorem v_dnotin {td ty : TE} (h : ty σ H fun y H1 => td σ H1 fun x H2 => ∃ a o, x = .ref a ∧ DGet H2 a y o ∧ Q (.bl (!o.isSome)) H2) : tDNotIn ty td σ H Q := h
theorem v_din {td ty : TE} (h : ty σ H fun y H1 => td σ H1 fun x H2 => ∃ a o, x = .ref a ∧ DGet H2 a y o ∧ Q (.bl o.isSome) H2) : tDIn ty td σ H Q := h
theorem v_dhasI {a : Addr} {kvs : List (Key × V)} {k : Int} {R : Option V → Prop} (c : Rd H a (.dK kvs)) (h : R (valV kvs (Sum.inl k))) : ∃ b o, V.ref a = .ref b ∧ DGet H b (.int k) o ∧ R o :=
  ⟨a, _, rfl, .inl ⟨kvs, Sum.inl k, c, rfl, rfl⟩, h⟩
/-! ### isinstance against a built-in type -/
theorem kit_int_int : kitB "int" "int" = some true := by decide +kernel
theorem kit_int_bool : kitB "int" "bool" = some false := by decide +kernel
theorem kit_int_str : kitB "int" "str" = some false := by decide +kernel
theorem kit_int_tuple : kitB "int" "tuple" = some false := by decide +kernel
theorem kit_int_list : kitB "int" "list" = some false := by decide +kernel
theorem kit_int_dict : kitB "int" "dict" = some false := by decide +kernel
theorem kit_bool_int : kitB "bool" "int" = some true := by decide +kernel
theorem kit_bool_bool : kitB "bool" "bool" = some true := by decide +kernel
theorem kit_bool_str : kitB "bool" "str" = some false := by decide +kernel
theorem kit_bool_tuple : kitB "bool" "tuple" = some false := by decide +kernel
theorem kit_bool_list : kitB "bool" "list" = some false := by decide +kernel
theorem kit_bool_dict : kitB "bool" "dict" = some false := by decide +kernel
theorem kit_str_int : kitB "str" "int" = some false := by decide +kernel
theorem kit_str_bool : kitB "str" "bool" = some false := by decide +kernel
theorem kit_str_str : kitB "str" "str" = some true := by decide +kernel
theorem kit_str_tuple : kitB "str" "tuple" = some false := by decide +kernel
theorem kit_str_list : kitB "str" "list" = some false := by decide +kernel
theorem kit_str_dict : kitB "str" "dict" = some false := by decide +kernel
theorem kit_tuple_int : kitB "tuple" "int" = some false := by decide +kernel
theorem kit_tuple_bool : kitB "tuple" "bool" = some false := by decide +kernel
theorem kit_tuple_str : kitB "tuple" "str" = some false := by decide +kernel
theorem kit_tuple_tuple : kitB "tuple" "tuple" = some true := by decide +kernel
theorem kit_tuple_list : kitB "tuple" "list" = some false := by decide +kernel
theorem kit_tuple_dict : kitB "tuple" "dict" = some false := by decide +kernel
theorem kit_list_int : kitB "list" "int" = some false := by decide +kernel
theorem kit_list_bool : kitB "list" "bool" = some false := by decide +kernel
theorem kit_list_str : kitB "list" "str" = some false := by decide +kernel
theorem kit_list_tuple : kitB "list" "tuple" = some false := by decide +kernel
theorem kit_list_list : kitB "list" "list" = some true := by decide +kernel
theorem kit_list_dict : kitB "list" "dict" = some false := by decide +kernel
theorem kit_dict_int : kitB "dict" "int" = some false := by decide +kernel
theorem kit_dict_bool : kitB "dict" "bool" = some false := by decide +kernel
theorem kit_dict_str : kitB "dict" "str" = some false := by decide +kernel
theorem kit_dict_tuple : kitB "dict" "tuple" = some false := by decide +kernel
theorem kit_dict_list : kitB "dict" "list" = some false := by decide +kernel
theorem kit_dict_dict : kitB "dict" "dict" = some true := by decide +kernel
theorem kit_NoneType_int : kitB "NoneType" "int" = some false := by decide +kernel
theorem kit_NoneType_bool : kitB "NoneType" "bool" = some false := by decide +kernel
theorem kit_NoneType_str : kitB "NoneType" "str" = some false := by decide +kernel
theorem kit_NoneType_tuple : kitB "NoneType" "tuple" = some false := by decide +kernel
theorem kit_NoneType_list : kitB "NoneType" "list" = some false := by decide +kernel
theorem kit_NoneType_dict : kitB "NoneType" "dict" = some false := by decide +kernel
theorem v_isi {K : PySem.W.Frag} {H : Hp} {Q : VK} {x : V} {a n : String} {b : Bool} (t : TyX K H x (.type a)) (k : kitB a n = some b) (h : Q (.bl b) H) : rIsi K [x, .ty n] H Q :=
  ⟨x, .ty n, .type a, .type n, b, rfl, .ty n, t, kit_ty k, h⟩
/-! ### truth -/
def tTru (K : PySem.W.Frag) (ta : TE) : TT := fun σ H Q => ta σ H fun x H' => ∃ k, TruV K x H' k ∧ Q k H'
theorem pt_tru {X : Cx} {a : Expr} {ta : TE} (ha : PE X a ta) (he : ∀ whole, isTrue a X.env whole = (do let v ← whole; standAt a.pos; holding [v] (truthy v)) := by intro _; rfl) : PT X a (tTru X.K ta) := pt_truth ha he
theorem v_tru {K : PySem.W.Frag} {σ : L2.St} {H : Hp} {ta : TE} {R : Bool → Hp → Prop} (h : ta σ H fun x H' => ∃ k, TruV K x H' k ∧ R k H') : tTru K ta σ H R := h
theorem v_truL {K : PySem.W.Frag} {H : Hp} {p : Addr} {xs : List V} {R : Bool → Prop} (c : SqL K H p xs) (h : R (!xs.isEmpty)) : ∃ k, TruV K (.ref p) H k ∧ R k := ⟨_, .inl ⟨xs, c, rfl⟩, h⟩
theorem v_truT {K : PySem.W.Frag} {H : Hp} {p : Addr} {xs : List V} {R : Bool → Prop} (c : SqT K H p xs) (h : R (!xs.isEmpty)) : ∃ k, TruV K (.ref p) H k ∧ R k := ⟨_, .inr (.inl ⟨xs, c, rfl⟩), h⟩
/-- the greatest, or d where there is none -/
def maxI (d : Int) : List Int → Int
  | [] => d
  | n :: r => r.foldl max n
def minI (d : Int) : List Int → Int
  | [] => d
  | n :: r => r.foldl min n
theorem v_maxD {K : PySem.W.Frag} {H : Hp} {Q : VK} {a : Addr} {ns : List Int} {d : Int} (c : SqT K H a (ns.map V.int)) (h : Q (.int (maxI d ns)) H) : bMaxD K [.ref a] [.int d] H Q :=
  ⟨a, ns, .int d, rfl, rfl, .inl c, fun e => by subst e; exact h, fun n r e => by subst e; exact h⟩
theorem v_maxDL {K : PySem.W.Frag} {H : Hp} {Q : VK} {a : Addr} {ns : List Int} {d : Int} (c : SqL K H a (ns.map V.int)) (h : Q (.int (maxI d ns)) H) : bMaxD K [.ref a] [.int d] H Q :=
  ⟨a, ns, .int d, rfl, rfl, .inr c, fun e => by subst e; exact h, fun n r e => by subst e; exact h⟩
theorem v_minD {K : PySem.W.Frag} {H : Hp} {Q : VK} {a : Addr} {ns : List Int} {d : Int} (c : SqT K H a (ns.map V.int)) (h : Q (.int (minI d ns)) H) : bMinD K [.ref a] [.int d] H Q :=
  ⟨a, ns, .int d, rfl, rfl, .inl c, fun e => by subst e; exact h, fun n r e => by subst e; exact h⟩
theorem foldl_max_spec : ∀ (r : List Int) (n : Int), n ≤ r.foldl max n ∧ (∀ s ∈ r, s ≤ r.foldl max n) ∧ (r.foldl max n = n ∨ r.foldl max n ∈ r)
  | [], n => ⟨Int.le_refl _, fun _ h => (by cases h), .inl rfl⟩
  | x :: r, n => by
    obtain ⟨h1, h2, h3⟩ := foldl_max_spec r (max n x)
    refine ⟨Int.le_trans (Int.le_max_left n x) h1, fun s hs => ?_, ?_⟩
    · rcases List.mem_cons.mp hs with e | hs
      · subst e
        exact Int.le_trans (Int.le_max_right n s) h1
      · exact h2 s hs
    · show List.foldl max (max n x) r = n ∨ List.foldl max (max n x) r ∈ x :: r
      rcases h3 with e | h3
      · rw [e]
        by_cases c : n ≤ x
        · exact .inr (by rw [Int.max_eq_right c]; exact List.mem_cons_self)
        · exact .inl (Int.max_eq_left (by omega))
      · exact .inr (List.mem_cons_of_mem _ h3)
theorem maxI_spec (d : Int) (ns : List Int) : (∀ s ∈ ns, s ≤ maxI d ns) ∧ (maxI d ns ∈ ns ∨ ns = [] ∧ maxI d ns = d) := by
  cases ns with
  | nil => exact ⟨fun _ h => (by cases h), .inr ⟨rfl, rfl⟩⟩
  | cons n r =>
    obtain ⟨h1, h2, h3⟩ := foldl_max_spec r n
    refine ⟨fun s hs => ?_, .inl ?_⟩
    · rcases List.mem_cons.mp hs with e | hs
      · subst e
        exact h1
      · exact h2 s hs
    · rcases h3 with e | h3
      · show List.foldl max n r ∈ n :: r
        rw [e]
        exact List.mem_cons_self
      · exact List.mem_cons_of_mem _ h3
theorem v_yes {σ : L2.St} {H : Hp} {R : Bool → Hp → Prop} (h : R true H) : tYes σ H R := h
/-! ### places -/
theorem ixN_ok {n : Nat} {i : Int} (h0 : 0 ≤ i) (h1 : i < n) : ixN n i = some i.toNat := by
  unfold ixN
  rw [if_pos h0, if_pos h1]
theorem ixN_neg {n : Nat} {i : Int} (h0 : i < 0) (h1 : -(n : Int) ≤ i) : ixN n i = some (i + n).toNat := by
  unfold ixN
  rw [if_neg (by omega), if_pos h1]
theorem at_get {α : Type} {xs : List α} {i : Int} {v : α} (h0 : 0 ≤ i) (h : xs[i.toNat]? = some v) : atI xs i = some v := by
  have hl := (List.getElem?_eq_some_iff.mp h).1
  unfold atI
  rw [ixN_ok h0 (by omega)]
  exact h
theorem at_ints {ns : List Int} {k : Int} (h0 : 0 ≤ k) (h1 : k < (ns.map V.int).length) : atI (ns.map V.int) k = some (V.int (ns.getD k.toNat 0)) := by
  rw [List.length_map] at h1
  refine at_get h0 ?_
  rw [List.getElem?_map, List.getD_eq_getElem?_getD, List.getElem?_eq_getElem (by omega : k.toNat < ns.length)]
  rfl
theorem at_last {α : Type} {xs : List α} {v : α} : atI (xs ++ [v]) (-1) = some v := by
  unfold atI
  rw [ixN_neg (by omega) (by rw [List.length_append]; simp; omega)]
  show (xs ++ [v])[((-1 : Int) + ((xs ++ [v]).length : Nat)).toNat]? = some v
  have e : ((-1 : Int) + ((xs ++ [v]).length : Nat)).toNat = xs.length := by rw [List.length_append]; simp; omega
  rw [e]
  simp
/-! ### loops -/
/-- a loop over J from here -/
def Loop (J : It) (g : TG) (tb : TS) (D : Ends) (σ : L2.St) (H1 : Hp) : Prop := ∃ W : Nat → Nat → L2.St → Hp → Prop, (∃ m, W 0 m σ H1) ∧ ∀ i m σ H, W i m σ H →
  (J.stop i H ∧ D.nx σ H) ∨ (J.go i H ∧ ∃ N : L2.St → Hp → Prop, (∀ σ' H', N σ' H' → ∃ m', m' < m ∧ W (i + 1) m' σ' H') ∧ ∀ x H', J.yld i H x H' → g x σ H' fun σ2 H2 => tb { D with nx := N, ct := N, bk := D.nx } σ2 H2)
theorem v_for {wi : TI} {tb : TS} (h : wi σ H fun J H1 => Loop J g tb D σ H1) : tFor wi g tb D σ H := h
theorem v_iRng1 {R : It → Hp → Prop} (h : tl σ H fun vs H1 => ∃ j : Int, vs = [.int j] ∧ -(2 ^ 62) ≤ j ∧ j < 2 ^ 62 ∧ R (Itr 0 j.toNat) H1) : iRng1 tl σ H R := h
theorem v_rng1 {j : Int} {R : Int → Prop} (c : -(2 ^ 62) ≤ j ∧ j < 2 ^ 62) (h : R j) : ∃ k : Int, [V.int j] = [V.int k] ∧ -(2 ^ 62) ≤ k ∧ k < 2 ^ 62 ∧ R k := ⟨j, rfl, c.1, c.2, h⟩
theorem v_iRng2 {R : It → Hp → Prop} (h : tl σ H fun vs H1 => ∃ i j : Int, vs = [.int i, .int j] ∧ (-(2 ^ 62) ≤ i ∧ i < 2 ^ 62 ∧ -(2 ^ 62) ≤ j ∧ j < 2 ^ 62) ∧ R (Itr i (j - i).toNat) H1) : iRng2 tl σ H R := h
theorem v_rng2 {a b : Int} {R : Int → Int → Prop} (c : -(2 ^ 62) ≤ a ∧ a < 2 ^ 62 ∧ -(2 ^ 62) ≤ b ∧ b < 2 ^ 62) (h : R a b) :
    ∃ i j : Int, [V.int a, V.int b] = [V.int i, V.int j] ∧ (-(2 ^ 62) ≤ i ∧ i < 2 ^ 62 ∧ -(2 ^ 62) ≤ j ∧ j < 2 ^ 62) ∧ R i j := ⟨a, b, rfl, c, h⟩
theorem v_iList {R : It → Hp → Prop} (h : te σ H fun x H1 => ∃ a, x = .ref a ∧ (∃ xs, SqL K H1 a xs) ∧ R (Itl K a) H1) : iList K te σ H R := h
theorem v_iTup {R : It → Hp → Prop} (h : te σ H fun x H1 => ∃ a, x = .ref a ∧ (∃ xs, SqT K H1 a xs) ∧ R (Itt K a) H1) : iTup K te σ H R := h
theorem v_isqL {a : Addr} {xs : List V} {R : Addr → Prop} (c : SqL K H a xs) (h : R a) : ∃ b, V.ref a = .ref b ∧ (∃ xs, SqL K H b xs) ∧ R b := ⟨a, rfl, ⟨xs, c⟩, h⟩
theorem v_isqT {a : Addr} {xs : List V} {R : Addr → Prop} (c : SqT K H a xs) (h : R a) : ∃ b, V.ref a = .ref b ∧ (∃ xs, SqT K H b xs) ∧ R b := ⟨a, rfl, ⟨xs, c⟩, h⟩
theorem loop_range {lo : Int} {n : Nat} {tb : TS} (Pv : Nat → L2.St → Hp → Prop) (h0 : Pv 0 σ H)
    (hs : ∀ i σ H, i < n → Pv i σ H → g (.int (lo + i)) σ H fun σ2 H2 => tb { D with nx := Pv (i + 1), ct := Pv (i + 1), bk := D.nx } σ2 H2) (hd : ∀ σ H, Pv n σ H → D.nx σ H) : Loop (Itr lo n) g tb D σ H := for_range Pv h0 hs hd
theorem loop_list {a : Addr} {xs : List V} {tb : TS} (Pv : Nat → L2.St → Hp → Prop) (h0 : Pv 0 σ H) (hl : ∀ i σ H, i ≤ xs.length → Pv i σ H → SqL K H a xs)
    (hs : ∀ i x σ H, xs[i]? = some x → Pv i σ H → g x σ H fun σ2 H2 => tb { D with nx := Pv (i + 1), ct := Pv (i + 1), bk := D.nx } σ2 H2) (hd : ∀ σ H, Pv xs.length σ H → D.nx σ H) : Loop (Itl K a) g tb D σ H := for_list Pv h0 hl hs hd
theorem loop_tup {a : Addr} {xs : List V} {tb : TS} (Pv : Nat → L2.St → Hp → Prop) (h0 : Pv 0 σ H) (hl : ∀ i σ H, i ≤ xs.length → Pv i σ H → SqT K H a xs)
    (hs : ∀ i x σ H, xs[i]? = some x → Pv i σ H → g x σ H fun σ2 H2 => tb { D with nx := Pv (i + 1), ct := Pv (i + 1), bk := D.nx } σ2 H2) (hd : ∀ σ H, Pv xs.length σ H → D.nx σ H) : Loop (Itt K a) g tb D σ H := for_tup Pv h0 hl hs hd
theorem loop_it {J : It} {n : Nat} {G : Hp → Prop} {Y : Nat → Hp → V → Hp → Prop} {tb : TS} (w : Walk J n G Y) (Pv : Nat → L2.St → Hp → Prop) (h0 : Pv 0 σ H) (hG : ∀ i σ H, i ≤ n → Pv i σ H → G H)
    (hs : ∀ i x σ H H', i < n → Pv i σ H → Y i H x H' → g x σ H' fun σ2 H2 => tb { D with nx := Pv (i + 1), ct := Pv (i + 1), bk := D.nx } σ2 H2) (hd : ∀ σ H, Pv n σ H → D.nx σ H) : Loop J g tb D σ H := for_it w Pv h0 hG hs hd
theorem v_iKeys {R : It → Hp → Prop} (h : te σ H fun x H1 => ∃ d o, x = .ref d ∧ ((∃ kvs, H1 d = some (.frz o (.dK kvs)) ∧ R (Itk d o kvs) H1) ∨ ∃ kvs, H1 d = some (.frz o (.dT kvs)) ∧ R (Itkt d o kvs) H1)) : iKeys te σ H R := h
theorem loop_while {c : TT} {tb : TS} (Pv : Nat → L2.St → Hp → Prop) (m0 : Nat) (h0 : Pv m0 σ H)
    (hs : ∀ m σ H, Pv m σ H → c σ H fun b H1 => if b = true then ∃ N : L2.St → Hp → Prop, (∀ σ' H', N σ' H' → ∃ m', m' < m ∧ Pv m' σ' H') ∧ tb { D with nx := N, ct := N, bk := D.nx } σ H1 else D.nx σ H1) : tWhile c tb D σ H :=
  ⟨Pv, ⟨m0, h0⟩, hs⟩
/-- a comprehension's loop -/
def LcLoop (J : It) (g : TG) (tt : TT) (te : TE) (vs : List Nat) (σ : L2.St) (D : Addr) (H1 : Hp) (Qd : Hp → Prop) : Prop := ∃ W : Nat → Nat → Hp → Prop, (∃ m, W 0 m (upd H1 D (.lst []))) ∧ ∀ i m H, W i m H →
  (J.stop i H ∧ Qd H) ∨ (J.go i H ∧ ∃ Nx : Hp → Prop, (∀ H', Nx H' → ∃ m', m' < m ∧ W (i + 1) m' H') ∧ ∀ x H', J.yld i H x H' → g x (wipe σ vs) H' fun σ2 H2 => wipe σ2 vs = wipe σ vs ∧ tt σ2 H2 fun b H3 =>
    if b = true then te σ2 H3 fun y H4 => ∃ acc, H4 D = some (.lst acc) ∧ acc.length < sizeLine ∧ Nx (upd H4 D (.lst (acc ++ [y]))) else Nx H3)
theorem v_lc {wi : TI} {tt : TT} {vs : List Nat} (h : wi σ H fun J H1 => ∀ D, H1 D = none → LcLoop J g tt te vs σ D H1 (Q (.ref D))) : tLc wi g tt te vs σ H Q := h
theorem lc_l {a D : Addr} {xs : List V} {tt : TT} {vs : List Nat} {H1 : Hp} {Qd : Hp → Prop} (Pv : Nat → Hp → Prop) (h0 : Pv 0 (upd H1 D (.lst []))) (hl : ∀ i H, i ≤ xs.length → Pv i H → SqL K H a xs)
    (hs : ∀ i x H, xs[i]? = some x → Pv i H → g x (wipe σ vs) H fun σ2 H2 => wipe σ2 vs = wipe σ vs ∧ tt σ2 H2 fun b H3 =>
      if b = true then te σ2 H3 fun y H4 => ∃ acc, H4 D = some (.lst acc) ∧ acc.length < sizeLine ∧ Pv (i + 1) (upd H4 D (.lst (acc ++ [y]))) else Pv (i + 1) H3) (hd : ∀ H, Pv xs.length H → Qd H) : LcLoop (Itl K a) g tt te vs σ D H1 Qd := lc_list Pv h0 hl hs hd
theorem lc_t {a D : Addr} {xs : List V} {tt : TT} {vs : List Nat} {H1 : Hp} {Qd : Hp → Prop} (Pv : Nat → Hp → Prop) (h0 : Pv 0 (upd H1 D (.lst []))) (hl : ∀ i H, i ≤ xs.length → Pv i H → SqT K H a xs)
    (hs : ∀ i x H, xs[i]? = some x → Pv i H → g x (wipe σ vs) H fun σ2 H2 => wipe σ2 vs = wipe σ vs ∧ tt σ2 H2 fun b H3 =>
      if b = true then te σ2 H3 fun y H4 => ∃ acc, H4 D = some (.lst acc) ∧ acc.length < sizeLine ∧ Pv (i + 1) (upd H4 D (.lst (acc ++ [y]))) else Pv (i + 1) H3) (hd : ∀ H, Pv xs.length H → Qd H) : LcLoop (Itt K a) g tt te vs σ D H1 Qd := by
  refine ⟨fun i m H => m = xs.length - i ∧ i ≤ xs.length ∧ Pv i H, ⟨xs.length, by simp, Nat.zero_le _, h0⟩, ?_⟩
  rintro i m H ⟨rfl, hi, p⟩
  have q := hl i H hi p
  by_cases hlt : i < xs.length
  · refine .inr ⟨⟨xs, xs[i], q, by simp [hlt]⟩, Pv (i + 1), fun H' p' => ⟨xs.length - (i + 1), by omega, rfl, hlt, p'⟩, fun x H' y => ?_⟩
    obtain ⟨e, y⟩ := y
    subst e
    exact hs i x _ (y xs q) p
  · have e : i = xs.length := by omega
    subst e
    exact .inl ⟨⟨xs, q, Nat.le_refl _⟩, hd H p⟩
end
/-! ### the rules with the written part named -/
section
variable {X : Cx} {K : PySem.W.Frag} {e o : Expr} {es : List Expr} {te to ta : TE} {tl : TA} {pos apos cpos : Pos} {name : Str} {id T : String} {tg : Expr}
theorem k_len (h : X.K = K) : CallR X (.builtin "len") (bLen K) := by subst h; exact w_len
theorem k_tup (h : X.K = K) : CallR X (.type "tuple") (bTup K) := by subst h; exact w_tup
theorem k_list (h : X.K = K) : CallR X (.type "list") (bList K) := by subst h; exact w_list
theorem k_ixL (h : X.K = K) : IxR X (rIxL K) := by subst h; exact ix_list
theorem k_ixT (h : X.K = K) : IxR X (rIxT K) := by subst h; exact ix_tup
theorem k_slL (h : X.K = K) : SlR X (rSlL K) := by subst h; exact sl_list
theorem k_slT (h : X.K = K) : SlR X (rSlA K) := by subst h; exact sl_tupA
theorem k_catT (h : X.K = K) : OpR X (binaryOp .Add) (rCatA K) := by subst h; exact op_catA
theorem k_isi (h : X.K = K) : CallR X (.builtin "isinstance") (rIsi K) := by subst h; exact call_isi
theorem k_sum (h : X.K = K) (hc : X.calm = true) : CallR X (.builtin "sum") (rSum K) := by subst h; exact cr_sum hc
theorem k_all (h : X.K = K) (hc : X.calm = true) : CallR X (.builtin "all") (rAll K) := by subst h; exact cr_all hc
theorem k_any (h : X.K = K) (hc : X.calm = true) : CallR X (.builtin "any") (rAny K) := by subst h; exact cr_any hc
theorem k_max (h : X.K = K) (hc : X.calm = true) : CallR X (.builtin "max") (rMax K) := by subst h; exact cr_max hc
theorem k_min (h : X.K = K) (hc : X.calm = true) : CallR X (.builtin "min") (rMin K) := by subst h; exact cr_min hc
theorem k_maxD (h : X.K = K) (hc : X.calm = true) (hu : X.A.units + 1 < cLine) : CallRK X (.builtin "max") [Str.ofString "default"] (bMaxD K) := by subst h; exact w_maxD hc hu
theorem k_minD (h : X.K = K) (hc : X.calm = true) (hu : X.A.units + 1 < cLine) : CallRK X (.builtin "min") [Str.ofString "default"] (bMinD K) := by subst h; exact w_minD hc hu
theorem k_iL (h : X.K = K) (he : PE X e te) : PI X tg e (iList K te) := by subst h; exact pi_list he
theorem k_iT (h : X.K = K) (he : PE X e te) : PI X tg e (iTup K te) := by subst h; exact pi_tup he
theorem k_gT {k n : Nat} {t : TGs} (h : X.K = K) (hc : X.calm = true) (he : PGs X es t) (hn : (assignEach es X.env).length = n := by rfl) (hst : (assignEach es X.env).findIdx? (·.1) = none := by rfl) : PG X (.Tuple es k pos) (gTup K n t) := by subst h; exact pg_tup hc he hn hst
theorem k_revT {k : Nat} {p1 p2 p3 : Pos} (h : X.K = K) (he : PE X e te) : PE X (.Subscript e (.Slice none none (some (.UnaryOp .USub (.Constant (.int 1) k p1) p2)) p3) pos) (tRevT K te) := by subst h; exact pe_revT he
theorem k_tru (h : X.K = K) (ha : PE X e te) (he : ∀ whole, isTrue e X.env whole = (do let v ← whole; standAt e.pos; holding [v] (truthy v)) := by intro _; rfl) : PT X e (tTru K te) := by subst h; exact pt_tru ha he
theorem k_fld {f : Str} (h : X.K = K) (he : PE X e te) (hb : attributeBase e f X.env (eval e X.env) = eval e X.env := by rfl) : PE X (.Attribute e f pos) (tFld K te f) := by subst h; exact pe_fld he hb
end
end RC
namespace RC
/-! ### sums of lengths -/
/-- t is a sum of just k members -/
def sumB (ns : List Int) : Nat → Int → Bool
  | 0, t => decide (t = 0)
  | k + 1, t => ns.any fun s => sumB ns k (t - s)
/-- the least number of members, at most m -/
def fewB (ns : List Int) : Nat → Int → Option Nat
  | 0, t => if t = 0 then some 0 else none
  | m + 1, t => match fewB ns m t with
    | some k => some k
    | none => if sumB ns (m + 1) t = true then some (m + 1) else none
theorem few_some {ns : List Int} : ∀ {m : Nat} {t : Int} {k : Nat}, fewB ns m t = some k → k ≤ m ∧ sumB ns k t = true ∧ ∀ j, j < k → sumB ns j t = false
  | 0, t, k, h => by
    unfold fewB at h
    by_cases e : t = 0
    · rw [if_pos e] at h
      cases h
      exact ⟨Nat.le_refl _, decide_eq_true e, fun j hj => absurd hj (Nat.not_lt_zero j)⟩
    · rw [if_neg e] at h
      cases h
  | m + 1, t, k, h => by
    unfold fewB at h
    cases q : fewB ns m t with
    | some j =>
      rw [q] at h
      cases h
      obtain ⟨a, b, c⟩ := few_some q
      exact ⟨Nat.le_succ_of_le a, b, c⟩
    | none =>
      rw [q] at h
      simp only at h
      by_cases e : sumB ns (m + 1) t = true
      · rw [if_pos e] at h
        cases h
        refine ⟨Nat.le_refl _, e, fun j hj => ?_⟩
        cases b : sumB ns j t with
        | false => rfl
        | true => exact absurd (few_none q j (Nat.le_of_lt_succ hj)) (by rw [b]; decide)
      · rw [if_neg e] at h
        cases h
where few_none {ns : List Int} : ∀ {m : Nat} {t : Int}, fewB ns m t = none → ∀ j, j ≤ m → sumB ns j t = false
  | 0, t, h, j, hj => by
    have : j = 0 := by omega
    subst this
    unfold fewB at h
    by_cases e : t = 0
    · rw [if_pos e] at h
      cases h
    · exact decide_eq_false e
  | m + 1, t, h, j, hj => by
    unfold fewB at h
    cases q : fewB ns m t with
    | some k =>
      rw [q] at h
      cases h
    | none =>
      rw [q] at h
      simp only at h
      by_cases e : sumB ns (m + 1) t = true
      · rw [if_pos e] at h
        cases h
      · by_cases hj' : j = m + 1
        · rw [hj']
          exact Bool.eq_false_iff.mpr e
        · exact few_none q j (by omega)
theorem few_none {ns : List Int} {m : Nat} {t : Int} (h : fewB ns m t = none) : ∀ j, j ≤ m → sumB ns j t = false := few_some.few_none h
theorem few_le {ns : List Int} {m : Nat} {t : Int} {j : Nat} (hj : j ≤ m) (h : sumB ns j t = true) : ∃ k, fewB ns m t = some k ∧ k ≤ j := by
  cases q : fewB ns m t with
  | none => exact absurd (few_none q j hj) (by rw [h]; decide)
  | some k =>
    refine ⟨k, rfl, ?_⟩
    obtain ⟨_, _, c⟩ := few_some q
    by_cases e : k ≤ j
    · exact e
    · exact absurd (c j (by omega)) (by rw [h]; decide)
theorem sum_step {ns : List Int} {k : Nat} {t s : Int} (h : sumB ns k t = true) (hs : s ∈ ns) : sumB ns (k + 1) (t + s) = true := by
  unfold sumB
  refine List.any_eq_true.mpr ⟨s, hs, ?_⟩
  rw [show t + s - s = t by omega]
  exact h
theorem sum_last {ns : List Int} {k : Nat} {t : Int} (h : sumB ns (k + 1) t = true) : ∃ s, s ∈ ns ∧ sumB ns k (t - s) = true := by
  unfold sumB at h
  obtain ⟨s, h1, h2⟩ := List.any_eq_true.mp h
  exact ⟨s, h1, h2⟩
theorem sum_range {ns : List Int} {M : Int} (h0 : ∀ s ∈ ns, 1 ≤ s ∧ s ≤ M) : ∀ {k : Nat} {t : Int}, sumB ns k t = true → 0 ≤ t ∧ t ≤ k * M
  | 0, t, h => by
    have e : t = 0 := of_decide_eq_true h
    subst e
    simp
  | k + 1, t, h => by
    obtain ⟨s, hs, q⟩ := sum_last h
    obtain ⟨a, b⟩ := sum_range h0 q
    obtain ⟨c, d⟩ := h0 s hs
    have e : ((k + 1 : Nat) : Int) * M = k * M + M := by rw [Int.natCast_add, Int.add_mul]; simp
    rw [e]
    omega
/-- one layer more -/
theorem few_next {ns ls : List Int} {i : Nat} (hl : ∀ t, t ∈ ls ↔ fewB ns i t = some i) (x : Int) :
    fewB ns (i + 1) x = match fewB ns i x with
      | some k => some k
      | none => if x ∈ ls.flatMap (fun t => ns.map fun s => t + s) then some (i + 1) else none := by
  show (match fewB ns i x with
    | some k => some k
    | none => if sumB ns (i + 1) x = true then some (i + 1) else none) = _
  cases q : fewB ns i x with
  | some k => rfl
  | none =>
    simp only
    have e : sumB ns (i + 1) x = true ↔ x ∈ ls.flatMap (fun t => ns.map fun s => t + s) := by
      constructor
      · intro h
        obtain ⟨s, hs, h1⟩ := sum_last h
        obtain ⟨k, h2, h3⟩ := few_le (Nat.le_refl i) h1
        have h4 : k = i := by
          by_cases e : k = i
          · exact e
          · have a := (few_some h2).2.1
            have b := sum_step a hs
            rw [show x - s + s = x by omega] at b
            exact absurd (few_none q (k + 1) (by omega)) (by rw [b]; decide)
        subst h4
        refine List.mem_flatMap.mpr ⟨x - s, (hl _).mpr h2, List.mem_map.mpr ⟨s, hs, by omega⟩⟩
      · intro h
        obtain ⟨t, ht, h1⟩ := List.mem_flatMap.mp h
        obtain ⟨s, hs, h2⟩ := List.mem_map.mp h1
        subst h2
        exact sum_step (few_some ((hl t).mp ht)).2.1 hs
    by_cases c : sumB ns (i + 1) x = true
    · rw [if_pos c, if_pos (e.mp c)]
    · rw [if_neg c, if_neg fun z => c (e.mpr z)]
/-- as the law reckons it -/
def leastB (ns : List Int) (m : Nat) (t : Int) : Int := match fewB ns m t with
  | some k => (k : Int)
  | none => (m : Int) + 1
theorem least_le {ns : List Int} {m : Nat} {t : Int} : 0 ≤ leastB ns m t ∧ leastB ns m t ≤ m + 1 := by
  unfold leastB
  cases q : fewB ns m t with
  | none => simp only; omega
  | some k =>
    have := (few_some q).1
    simp only
    omega
theorem least_some {ns : List Int} {m : Nat} {t : Int} {k : Nat} (h : fewB ns m t = some k) : leastB ns m t = k := by
  unfold leastB
  rw [h]
theorem least_none {ns : List Int} {m : Nat} {t : Int} (h : fewB ns m t = none) : leastB ns m t = m + 1 := by
  unfold leastB
  rw [h]
/-- min(b, x + 1) -/
def minF (b x : Int) : Int := if x + 1 < b then x + 1 else b
theorem minF_le (b x : Int) : minF b x ≤ b ∧ minF b x ≤ x + 1 := by
  unfold minF
  split <;> omega
theorem minF_ge {c b x : Int} (h1 : c ≤ b) (h2 : c ≤ x + 1) : c ≤ minF b x := by
  unfold minF
  split <;> omega
theorem foldl_min_le : ∀ (l : List Int) (b : Int), l.foldl minF b ≤ b ∧ ∀ x ∈ l, l.foldl minF b ≤ x + 1
  | [], b => ⟨Int.le_refl _, fun _ h => by cases h⟩
  | y :: l, b => by
    obtain ⟨h1, h2⟩ := foldl_min_le l (minF b y)
    obtain ⟨h3, h4⟩ := minF_le b y
    refine ⟨Int.le_trans h1 h3, fun x hx => ?_⟩
    rcases List.mem_cons.mp hx with e | hx
    · subst e
      exact Int.le_trans h1 h4
    · exact h2 x hx
theorem foldl_min_ge {c : Int} : ∀ (l : List Int) (b : Int), c ≤ b → (∀ x ∈ l, c ≤ x + 1) → c ≤ l.foldl minF b
  | [], b, h, _ => h
  | y :: l, b, h, h2 => foldl_min_ge l _ (minF_ge h (h2 y List.mem_cons_self)) fun x hx => h2 x (List.mem_cons_of_mem _ hx)
theorem sum_nonneg {ns : List Int} (h0 : ∀ s ∈ ns, 1 ≤ s) : ∀ {k : Nat} {t : Int}, sumB ns k t = true → 0 ≤ t
  | 0, t, z => by
    have e : t = 0 := of_decide_eq_true z
    omega
  | k + 1, t, z => by
    obtain ⟨s, hs, q⟩ := sum_last z
    have := sum_nonneg h0 q
    have := h0 s hs
    omega
theorem least_rec {ns : List Int} {m : Nat} {t : Int} (h0 : ∀ s ∈ ns, 1 ≤ s) (ht : 1 ≤ t) :
    leastB ns m t = ((ns.filter fun s => decide (s ≤ t)).map fun s => leastB ns m (t - s)).foldl minF ((m : Int) + 1) := by
  obtain ⟨l1, l2⟩ := foldl_min_le ((ns.filter fun s => decide (s ≤ t)).map fun s => leastB ns m (t - s)) ((m : Int) + 1)
  apply Int.le_antisymm
  · refine foldl_min_ge _ _ least_le.2 fun x hx => ?_
    obtain ⟨s, hs, e⟩ := List.mem_map.mp hx
    subst e
    have hs' := (List.mem_filter.mp hs).1
    cases q : fewB ns m (t - s) with
    | none =>
      rw [least_none q]
      have := (@least_le ns m t).2
      omega
    | some j =>
      rw [least_some q]
      obtain ⟨a, b, _⟩ := few_some q
      have b2 := sum_step b hs'
      rw [show t - s + s = t by omega] at b2
      by_cases c : j + 1 ≤ m
      · obtain ⟨k, e1, e2⟩ := few_le c b2
        rw [least_some e1]
        omega
      · have := (@least_le ns m t).2
        omega
  · cases q : fewB ns m t with
    | none =>
      rw [least_none q]
      exact l1
    | some k =>
      rw [least_some q]
      obtain ⟨a, b, _⟩ := few_some q
      cases k with
      | zero =>
        have e : t = 0 := of_decide_eq_true b
        omega
      | succ j =>
        obtain ⟨s, hs, b2⟩ := sum_last b
        have hst : s ≤ t := by
          have := sum_nonneg h0 b2
          omega
        have hm : s ∈ ns.filter fun s => decide (s ≤ t) := List.mem_filter.mpr ⟨hs, decide_eq_true hst⟩
        have := l2 _ (List.mem_map_of_mem (f := fun s => leastB ns m (t - s)) hm)
        refine Int.le_trans this ?_
        obtain ⟨k, e1, e2⟩ := few_le (m := m) (by omega : j ≤ m) b2
        rw [least_some e1]
        omega
/-! ### numbers below a bound, each once -/
theorem nodup_bound : ∀ (n : Nat) (l : List Int), l.Nodup → (∀ x ∈ l, 0 ≤ x ∧ x < n) → l.length ≤ n
  | 0, l, _, h => by
    cases l with
    | nil => exact Nat.le_refl _
    | cons x r =>
      have := h x List.mem_cons_self
      omega
  | n + 1, l, nd, h => by
    have h1 := nodup_bound n (l.erase (n : Int)) (nd.erase _) fun x hx => by
      have hx' := List.mem_of_mem_erase hx
      have := h x hx'
      have ne : x ≠ (n : Int) := fun e => by
        subst e
        exact (List.Nodup.not_mem_erase nd) hx
      omega
    by_cases hm : (n : Int) ∈ l
    · rw [List.length_erase_of_mem hm] at h1
      omega
    · rw [List.erase_of_not_mem hm] at h1
      omega
end RC
namespace RC
open PySem PySem.Spec PyProof.Rows L2
/-- the dict tells the function f, by ints, each once -/
structure DictIs (kvs : List (Key × V)) (f : Int → Option Nat) : Prop where
  val : ∀ t : Int, valV kvs (Sum.inl t) = (f t).map fun (k : Nat) => V.int (k : Int)
  kint : ∀ p ∈ kvs, ∃ t : Int, p.1 = Sum.inl t
  nodup : (kvs.map (·.1)).Nodup
theorem mem_keys {κ : Type} [DecidableEq κ] : ∀ {kvs : List (κ × V)} {k : κ}, k ∈ kvs.map (·.1) ↔ (valV kvs k).isSome = true
  | [], k => by simp [valV]
  | p :: r, k => by
    by_cases e : p.1 = k
    · rw [valV_pos e]
      simp [e]
    · rw [valV_neg e, ← mem_keys (kvs := r) (k := k)]
      simp [Ne.symm e]
theorem DictIs.put {kvs : List (Key × V)} {f : Int → Option Nat} (d : DictIs kvs f) {t : Int} {k : Nat} (h : f t = none) : DictIs (putK kvs (Sum.inl t) (.int (k : Int))) (fun x => if x = t then some k else f x) := by
  have hv : valV kvs (Sum.inl t : Key) = none := by rw [d.val t, h]; rfl
  refine ⟨fun x => ?_, fun p hp => ?_, ?_⟩
  · rw [valV_put]
    by_cases e : x = t
    · rw [if_pos (congrArg Sum.inl e), if_pos e]
      rfl
    · rw [if_neg fun z => e (Sum.inl.inj z), if_neg e, d.val x]
  · rw [putK_new _ hv] at hp
    rcases List.mem_append.mp hp with hp | hp
    · exact d.kint p hp
    · rw [List.mem_singleton.mp hp]
      exact ⟨t, rfl⟩
  · rw [putK_new _ hv, List.map_append, List.nodup_append]
    refine ⟨d.nodup, by simp, fun a ha b hb => ?_⟩
    have hb' : b = (Sum.inl t : Key) := by simpa using hb
    subst hb'
    intro e
    subst e
    rw [mem_keys, hv] at ha
    cases ha
theorem DictIs.of_eq {kvs : List (Key × V)} {f g : Int → Option Nat} (d : DictIs kvs f) (h : ∀ t, f t = g t) : DictIs kvs g := ⟨fun t => by rw [d.val t, h t], d.kint, d.nodup⟩
/-- the keys as ints -/
def keyInts (kvs : List (Key × V)) : List Int := kvs.filterMap fun p => match p.1 with
  | .inl t => some t
  | .inr _ => none
theorem keyInts_spec : ∀ {kvs : List (Key × V)}, (∀ p ∈ kvs, ∃ t : Int, p.1 = Sum.inl t) → kvs.map (·.1) = (keyInts kvs).map (Sum.inl : Int → Key)
  | [], _ => rfl
  | p :: r, h => by
    obtain ⟨t, e⟩ := h p List.mem_cons_self
    obtain ⟨k, v⟩ := p
    simp only at e
    subst e
    show (Sum.inl t : Key) :: r.map (·.1) = (Sum.inl t : Key) :: (keyInts r).map Sum.inl
    rw [keyInts_spec fun p hp => h p (List.mem_cons_of_mem _ hp)]
theorem DictIs.keys {kvs : List (Key × V)} {f : Int → Option Nat} (d : DictIs kvs f) : (keyInts kvs).Nodup ∧ (keyInts kvs).length = kvs.length ∧ ∀ t, t ∈ keyInts kvs ↔ (f t).isSome = true := by
  have e := keyInts_spec d.kint
  refine ⟨?_, ?_, fun t => ?_⟩
  · have := d.nodup
    rw [e] at this
    exact (List.pairwise_map.mp this).imp fun h e => h (congrArg _ e)
  · have := congrArg List.length e
    rw [List.length_map, List.length_map] at this
    exact this.symm
  · have h1 : t ∈ keyInts kvs ↔ (Sum.inl t : Key) ∈ kvs.map (·.1) := by
      rw [e]
      constructor
      · exact fun h => List.mem_map_of_mem h
      · intro h
        obtain ⟨u, hu, eu⟩ := List.mem_map.mp h
        rw [← Sum.inl.inj eu]
        exact hu
    rw [h1, mem_keys, d.val t]
    cases f t <;> simp
theorem sub_length : ∀ (a b : List Int), a.Nodup → (∀ x ∈ a, x ∈ b) → a.length ≤ b.length
  | [], b, _, _ => Nat.zero_le _
  | x :: r, b, nd, h => by
    obtain ⟨h1, h2⟩ := List.nodup_cons.mp nd
    have hx := h x List.mem_cons_self
    have := sub_length r (b.erase x) h2 fun y hy => (List.mem_erase_of_ne fun e => h1 (by rw [← e]; exact hy)).mpr (h y (List.mem_cons_of_mem _ hy))
    rw [List.length_erase_of_mem hx] at this
    have := List.length_pos_of_mem hx
    show r.length + 1 ≤ b.length
    omega
theorem DictIs.same {a b : List (Key × V)} {f : Int → Option Nat} (d : DictIs a f) (e : DictIs b f) : a.length = b.length := by
  obtain ⟨n1, l1, m1⟩ := d.keys
  obtain ⟨n2, l2, m2⟩ := e.keys
  have h1 := sub_length _ _ n1 fun x hx => (m2 x).mpr ((m1 x).mp hx)
  have h2 := sub_length _ _ n2 fun x hx => (m1 x).mpr ((m2 x).mp hx)
  omega
theorem DictIs.bound {a : List (Key × V)} {f : Int → Option Nat} {n : Nat} (d : DictIs a f) (h : ∀ t k, f t = some k → 0 ≤ t ∧ t < n) : a.length ≤ n := by
  obtain ⟨n1, l1, m1⟩ := d.keys
  rw [← l1]
  refine nodup_bound n _ n1 fun x hx => ?_
  have := (m1 x).mp hx
  obtain ⟨k, e⟩ := Option.isSome_iff_exists.mp this
  exact h x k e
theorem dict0 : DictIs [(Sum.inl 0, V.int 0)] (fewB ns 0) := by
  refine ⟨fun t => ?_, fun p hp => ?_, by simp⟩
  · by_cases e : t = 0
    · subst e
      rfl
    · rw [valV_neg (p := (Sum.inl 0, V.int 0)) (fun z => e (Sum.inl.inj z).symm)]
      show none = ((if t = 0 then some 0 else none : Option Nat)).map _
      rw [if_neg e]
      rfl
  · rw [List.mem_singleton.mp hp]
    exact ⟨0, rfl⟩
/-- all sums lie below the bound -/
theorem few_bound {ns : List Int} {M : Int} (h0 : ∀ s ∈ ns, 1 ≤ s ∧ s ≤ M) (hM : 0 ≤ M) {m : Nat} {t : Int} {k : Nat} (h : fewB ns m t = some k) : 0 ≤ t ∧ t ≤ m * M := by
  obtain ⟨a, b, _⟩ := few_some h
  obtain ⟨c, d⟩ := sum_range h0 b
  refine ⟨c, Int.le_trans d (Int.mul_le_mul_of_nonneg_right (by omega) hM)⟩
/-- only the set of the lengths matters -/
theorem sum_set_eq {ns ms : List Int} (h : ∀ s, s ∈ ns ↔ s ∈ ms) : ∀ (k : Nat) (t : Int), sumB ns k t = sumB ms k t
  | 0, _ => rfl
  | k + 1, t => by
    unfold sumB
    rw [Bool.eq_iff_iff, List.any_eq_true, List.any_eq_true]
    constructor
    · rintro ⟨s, a, b⟩
      exact ⟨s, (h s).mp a, by rw [← sum_set_eq h]; exact b⟩
    · rintro ⟨s, a, b⟩
      exact ⟨s, (h s).mpr a, by rw [sum_set_eq h]; exact b⟩
theorem few_set_eq {ns ms : List Int} (h : ∀ s, s ∈ ns ↔ s ∈ ms) : ∀ (m : Nat) (t : Int), fewB ns m t = fewB ms m t
  | 0, _ => rfl
  | m + 1, t => by
    unfold fewB
    rw [few_set_eq h m t, sum_set_eq h]
/-! ### a layer under way: all totals seen so far -/
/-- the dict behind the totals seen -/
def layer (ns : List Int) (i : Nat) (seen : List Int) (x : Int) : Option Nat := match fewB ns i x with
  | some k => some k
  | none => if x ∈ seen then some (i + 1) else none
theorem layer_new {ns : List Int} {i : Nat} {seen : List Int} {t : Int} (h : layer ns i seen t = none) (x : Int) : layer ns i (seen ++ [t]) x = if x = t then some (i + 1) else layer ns i seen x := by
  unfold layer at h ⊢
  cases q : fewB ns i x with
  | some k =>
    simp only
    by_cases e : x = t
    · subst e
      rw [q] at h
      cases h
    · rw [if_neg e]
  | none =>
    simp only [List.mem_append, List.mem_singleton]
    by_cases e : x = t
    · rw [if_pos (Or.inr e), if_pos e]
    · rw [if_neg e]
      by_cases m : x ∈ seen
      · rw [if_pos (Or.inl m), if_pos m]
      · rw [if_neg (fun z => z.elim m e), if_neg m]
theorem layer_old {ns : List Int} {i : Nat} {seen : List Int} {t : Int} {k : Nat} (h : layer ns i seen t = some k) (x : Int) : layer ns i (seen ++ [t]) x = layer ns i seen x := by
  unfold layer at h ⊢
  cases q : fewB ns i x with
  | some k => rfl
  | none =>
    simp only [List.mem_append, List.mem_singleton]
    by_cases e : x = t
    · subst e
      rw [q] at h
      simp only at h
      by_cases m : x ∈ seen
      · rw [if_pos (Or.inl m), if_pos m]
      · rw [if_neg m] at h
        cases h
    · by_cases m : x ∈ seen
      · rw [if_pos (Or.inl m), if_pos m]
      · rw [if_neg (fun z => z.elim m e), if_neg m]
/-- the totals put in newly -/
def NewIs (ns : List Int) (i : Nat) (seen new : List Int) : Prop := ∀ x, x ∈ new ↔ fewB ns i x = none ∧ x ∈ seen
theorem NewIs.add {ns : List Int} {i : Nat} {seen new : List Int} {t : Int} (n : NewIs ns i seen new) (h : layer ns i seen t = none) : NewIs ns i (seen ++ [t]) (new ++ [t]) := fun x => by
  have ht : fewB ns i t = none := by
    unfold layer at h
    cases q : fewB ns i t with
    | none => rfl
    | some k => rw [q] at h; cases h
  rw [List.mem_append, List.mem_append, List.mem_singleton, n x]
  constructor
  · rintro (⟨a, b⟩ | e)
    · exact ⟨a, .inl b⟩
    · subst e
      exact ⟨ht, .inr rfl⟩
  · rintro ⟨a, b | e⟩
    · exact .inl ⟨a, b⟩
    · exact .inr e
theorem NewIs.old {ns : List Int} {i : Nat} {seen new : List Int} {t : Int} {k : Nat} (n : NewIs ns i seen new) (h : layer ns i seen t = some k) : NewIs ns i (seen ++ [t]) new := fun x => by
  rw [List.mem_append, List.mem_singleton, n x]
  constructor
  · rintro ⟨a, b⟩
    exact ⟨a, .inl b⟩
  · rintro ⟨a, b | e⟩
    · exact ⟨a, b⟩
    · subst e
      refine ⟨a, ?_⟩
      unfold layer at h
      rw [a] at h
      simp only at h
      by_cases m : x ∈ seen
      · exact m
      · rw [if_neg m] at h
        cases h
theorem layer_end {ns ls : List Int} {i : Nat} (hl : ∀ t, t ∈ ls ↔ fewB ns i t = some i) (x : Int) : layer ns i (ls.flatMap fun t => ns.map fun s => t + s) x = fewB ns (i + 1) x := (few_next hl x).symm
theorem new_end {ns ls new : List Int} {i : Nat} (hl : ∀ t, t ∈ ls ↔ fewB ns i t = some i) (n : NewIs ns i (ls.flatMap fun t => ns.map fun s => t + s) new) (x : Int) : x ∈ new ↔ fewB ns (i + 1) x = some (i + 1) := by
  rw [n x, few_next hl x]
  cases q : fewB ns i x with
  | some k =>
    simp only
    constructor
    · rintro ⟨a, _⟩
      cases a
    · intro e
      have := (few_some q).1
      cases e
      omega
  | none =>
    simp only
    by_cases m : x ∈ ls.flatMap fun t => ns.map fun s => t + s
    · rw [if_pos m]
      exact ⟨fun _ => rfl, fun _ => ⟨trivial, m⟩⟩
    · rw [if_neg m]
      exact ⟨fun h => absurd h.2 m, fun h => by cases h⟩
theorem take_snoc {α : Type} {l : List α} {i : Nat} {x : α} (h : l[i]? = some x) : l.take (i + 1) = l.take i ++ [x] := by
  rw [List.take_add_one, h]
  rfl
end RC
namespace RC
open PySem PySem.Spec PyProof.Rows L2
local macro_rules | `(tactic| walk_at "vside") => `(tactic| first | assumption | exact rfl | omega | exact Nat.le_of_ble_eq_true rfl | exact SqL.of (by assumption) | exact SqT.of (by assumption) | exact SqL.of upd_same | exact SqT.of upd_same | exact upd_same | exact Rd.of (by assumption) | exact Rd.of upd_same)
local macro_rules | `(tactic| walk_at "v1") => `(tactic| first
  | (with_reducible first
    | refine v_seq ?_ | refine v_asg ?_ | refine v_ret ?_ | refine v_retN ?_ | refine v_next ?_ | refine v_drop ?_ | refine v_if ?_ | refine v_test ?_ | refine v_tB ?_ | refine v_bl ?_ | refine v_not ?_ | refine v_and ?_ | refine v_or ?_
    | refine v_andV ?_ | refine v_orV ?_ | refine v_notV ?_ | refine v_ifE ?_ | refine v_C ?_ | refine v_op ?_ | refine v_un ?_ | refine v_CB ?_ | refine v_CKw ?_ | refine v_nil ?_ | refine v_cons ?_ | refine v_call ?_ | refine v_tup ?_ | refine v_lst ?_
    | refine v_revT ?_ | refine v_sl ?_ | refine v_noPart ?_ | refine v_part ?_ | refine v_partI ?_ | refine v_add ?_ | refine v_sub ?_ | refine v_lt ?_ | refine v_le ?_ | refine v_gt ?_ | refine v_ge ?_ | refine v_neg ?_ | refine v_abs ?_ | refine v_int ?_
    | refine v_min2 ?_ | refine v_max2 ?_ | refine v_gSub ?_ | refine v_BM ?_ | refine v_BM0 ?_ | refine v_dput ?_ | refine v_dget ?_ | refine v_dnotin ?_ | refine v_din ?_ | refine v_for ?_ | refine v_iRng1 ?_ | refine v_iRng2 ?_ | refine v_iList ?_ | refine v_iTup ?_ | refine v_lc ?_ | refine v_yes ?_ | refine v_tru ?_ | refine v_iteT ?_ | refine v_iteF ?_ | refine v_iteNT ?_ | refine v_iteNF ?_ | refine v_iKeys ?_)
  | ((with_reducible refine' v_var ?k1 ?_); (case k1 => exact rfl))
  | ((with_reducible refine' v_gName ?k1 ?_); (case k1 => (dsimp only [List.set, L2.wipe, List.map]; try exact rfl)))
  | ((with_reducible refine' v_mul ?k1 ?_); (case k1 => walk_at "vside"))
  | ((with_reducible refine' v_div ?k1 ?_); (case k1 => walk_at "vside"))
  | ((with_reducible refine' v_mod ?k1 ?_); (case k1 => walk_at "vside"))
  | ((with_reducible refine' v_eq ?k1 ?_); (case k1 => exact rfl))
  | ((with_reducible refine' v_ne ?k1 ?_); (case k1 => exact rfl))
  | ((with_reducible refine' v_isi ?k1 ?k2 ?_); (case k1 => first | exact .base (.int _) | exact .base (.bl _) | exact .base (.str _) | exact .base .non | exact .base (.lst (by assumption)) | exact .base (.tup (by assumption)) | exact .base (.dK (by assumption))); (case k2 => first | exact kit_int_int | exact kit_int_bool | exact kit_int_str | exact kit_int_tuple | exact kit_int_list | exact kit_int_dict | exact kit_bool_int | exact kit_bool_bool | exact kit_bool_str | exact kit_bool_tuple | exact kit_bool_list | exact kit_bool_dict | exact kit_str_int | exact kit_str_bool | exact kit_str_str | exact kit_str_tuple | exact kit_str_list | exact kit_str_dict | exact kit_tuple_int | exact kit_tuple_bool | exact kit_tuple_str | exact kit_tuple_tuple | exact kit_tuple_list | exact kit_tuple_dict | exact kit_list_int | exact kit_list_bool | exact kit_list_str | exact kit_list_tuple | exact kit_list_list | exact kit_list_dict | exact kit_dict_int | exact kit_dict_bool | exact kit_dict_str | exact kit_dict_tuple | exact kit_dict_list | exact kit_dict_dict | exact kit_NoneType_int | exact kit_NoneType_bool | exact kit_NoneType_str | exact kit_NoneType_tuple | exact kit_NoneType_list | exact kit_NoneType_dict))
  | ((with_reducible refine' v_truL ?k1 ?_); (case k1 => walk_at "vside"))
  | ((with_reducible refine' v_truT ?k1 ?_); (case k1 => walk_at "vside"))
  | ((with_reducible refine' v_maxD ?k1 ?_); (case k1 => walk_at "vside"))
  | ((with_reducible refine' v_minD ?k1 ?_); (case k1 => walk_at "vside"))
  | ((with_reducible refine' v_lenL ?k1 ?_); (case k1 => walk_at "vside"))
  | ((with_reducible refine' v_lenT ?k1 ?_); (case k1 => walk_at "vside"))
  | ((with_reducible refine' v_lenD ?k1 ?_); (case k1 => walk_at "vside"))
  | ((with_reducible refine' v_ixL ?k1 ?k2 ?_); (case k1 => walk_at "vside"); (case k2 => walk_at "vside"))
  | ((with_reducible refine' v_ixT ?k1 ?k2 ?_); (case k1 => walk_at "vside"); (case k2 => walk_at "vside"))
  | ((with_reducible refine' v_setL ?k1 ?k2 ?_); (case k1 => walk_at "vside"); (case k2 => walk_at "vside"))
  | ((with_reducible refine' v_isL ?k1 ?_); (case k1 => walk_at "vside"))
  | ((with_reducible refine' v_append ?k1 ?k2 ?_); (case k1 => walk_at "vside"); (case k2 => walk_at "vside"))
  | ((with_reducible refine' v_dputI ?k1 ?k2 ?_); (case k1 => walk_at "vside"); (case k2 => walk_at "vside"))
  | ((with_reducible refine' v_dgetI ?k1 ?k2 ?_); (case k1 => walk_at "vside"); (case k2 => walk_at "vside"))
  | ((with_reducible refine' v_dhasI ?k1 ?_); (case k1 => walk_at "vside"))
  | ((with_reducible refine' v_isqL ?k1 ?_); (case k1 => walk_at "vside"))
  | ((with_reducible refine' v_isqT ?k1 ?_); (case k1 => walk_at "vside"))
  | ((with_reducible refine' v_rng1 ?k1 ?_); (case k1 => walk_at "vside"))
  | ((with_reducible refine' v_rng2 ?k1 ?_); (case k1 => walk_at "vside")))
local macro_rules | `(tactic| walk_at "vc") => `(tactic| repeat walk_at "v1")
local macro_rules | `(tactic| walk_at "vlen") => `(tactic| (intro vs H Q E h; (repeat' (obtain ⟨_, h⟩ := h)); first | (subst_vars; rfl) | (simp_all)))
def top (i : Nat) : Stmt := PySem.Challenge.pw_ringingchamber_k44_sums_of_lengths.main.body.getD i (.Pass ⟨0, 0, 0, 0⟩)
/-- what the top has left -/
structure Tx (K : PySem.W.Frag) (mg : Str → Option Value) : Prop where
  d_fewest_sums : HasDef K mg "fewest_sums" (top 1)
  d__law_cell : HasDef K mg "_law_cell" (top 3)
  d__law_pool : HasDef K mg "_law_pool" (top 4)
  d__law_draw : HasDef K mg "_law_draw" (top 5)
  d__law_is_integer : HasDef K mg "_law_is_integer" (top 6)
  d__law_lengths : HasDef K mg "_law_lengths" (top 7)
  d__law_due : HasDef K mg "_law_due" (top 8)
  d__law_right : HasDef K mg "_law_right" (top 9)
  d_law : HasDef K mg "law" (top 10)
  f_len : mg "len" = none
  f_abs : mg "abs" = none
  f_int : mg "int" = none
  f_range : mg "range" = none
  f_list : mg "list" = none
  f_tuple : mg "tuple" = none
  f_max : mg "max" = none
  f_min : mg "min" = none
  f_isinstance : mg "isinstance" = none
  f_bool : mg "bool" = none
  f_dict : mg "dict" = none
section
variable {P : Program} {w : World} {K : PySem.W.Frag} {mg : Str → Option Value} {base : Heap}
/-- some number -/
def spLawCell (K : PySem.W.Frag) : Sp := fun vs H Q _ => ∃ (a : Addr) (ns : List Int) (k : Int), vs = [.ref a, .int k] ∧ SqL K H a (ns.map V.int) ∧ 0 ≤ k ∧ ∀ i : Int, Q (.int i) H
abbrev sLawCell : Stmt := top 3
theorem sc__law_cell : FnScope ["script", "k"] ["script", "k"] (defScope sLawCell) := ⟨rfl, rfl, rfl, by decide +kernel, rfl, by decide +kernel, by decide +kernel⟩
theorem ok__law_cell (T : Tx K mg) : Cal P w K mg base "_law_cell" 1 ["script", "k"] (spLawCell K) := by
  have sc := sc__law_cell
  refine Cal.of T.d__law_cell sc (fun _ _ _ _ _ _ us hl => match us, hl with | [_, _], _ => rfl) (by walk_at "vlen") (fun f cdv A outer s H vs Q E hr h => ?_)
  obtain ⟨a, ns, k, rfl, hS, hk, q⟩ := h
  refine ⟨_, (pss_cons
    (ps_if (pt_cmpR w_lt (pv 1) (pe_callB (k_len (K := K) rfl) rfl T.f_len PySem.boot_len (pa_cons (pv 0) pa_nil)) (nomark _)) (pss_one
      (ps_ret (pe_callB w_abs rfl T.f_abs (by decide +kernel) (pa_cons (pe_callTy w_int rfl T.f_int (by decide +kernel) (pa_cons (pe_ix (k_ixL (K := K) rfl) (pv 0) (pv 1) (fun _ _ => rfl)) pa_nil)) pa_nil)))) pss_nil)
    (pss_cons
    (ps_if (pt_cmpR op_eq (pe_callB (k_len (K := K) rfl) rfl T.f_len PySem.boot_len (pa_cons (pv 0) pa_nil)) pe_int (nomark _)) (pss_one
      (ps_ret pe_int)) pss_nil)
    (pss_one
    (ps_ret (pe_op w_mod (pe_callB w_abs rfl T.f_abs (by decide +kernel) (pa_cons (pe_callTy w_int rfl T.f_int (by decide +kernel) (pa_cons (pe_ix (k_ixL (K := K) rfl) (pv 0) (pe_op w_mod (pe_callTy w_int rfl T.f_int (by decide +kernel) (pa_cons (pv 1) pa_nil)) (pe_callB (k_len (K := K) rfl) rfl T.f_len PySem.boot_len (pa_cons (pv 0) pa_nil))) (fun _ _ => rfl)) pa_nil)) pa_nil)) pe_int))))), ?_⟩
  have s0 : ∀ v0 v1 : V, start ["script", "k"] [v0, v1] = [some v0, some v1] := fun _ _ => rfl
  rw [s0]
  walk_at "vc"
  refine v_dec (fun h => ?_) (fun h => ?_)
  · have ha := at_ints hk h
    walk_at "vc"
    exact q _
  · walk_at "vc"
    refine v_decI (fun h0 => ?_) (fun h0 => ?_)
    · walk_at "vc"
      exact q _
    · have hl : 0 < ((ns.map V.int).length : Int) := by omega
      have ha := at_ints (ns := ns) (Int.emod_nonneg k (by omega)) (Int.emod_lt_of_pos k hl)
      walk_at "vc"
      exact q _
/-- a pool of numbers -/
def PoolAt (H : Hp) (p : Addr) : Prop := ∃ a b c : Int, H p = some (.lst [.int a, .int b, .int c])
def spLawPool (K : PySem.W.Frag) : Sp := fun vs H Q _ => ∃ (a : Addr) (ns : List Int) (k : Int), vs = [.ref a, .int k] ∧ SqL K H a (ns.map V.int) ∧ 0 ≤ k ∧ k ≤ 1000 ∧ ∀ p H', H p = none → Same H H' → PoolAt H' p → Q (.ref p) H'
abbrev sLawPool : Stmt := top 4
theorem sc__law_pool : FnScope ["script", "k", "cell"] ["script", "k"] (defScope sLawPool) := ⟨rfl, rfl, rfl, by decide +kernel, rfl, by decide +kernel, by decide +kernel⟩
theorem ok__law_pool (T : Tx K mg) : Cal P w K mg base "_law_pool" 2 ["script", "k"] (spLawPool K) := by
  have sc := sc__law_pool
  refine Cal.of T.d__law_pool sc (fun _ _ _ _ _ _ us hl => match us, hl with | [_, _], _ => rfl) (by walk_at "vlen") (fun f cdv A outer s H vs Q E hr h => ?_)
  obtain ⟨a, ns, k, rfl, hS, hk, hk1, q⟩ := h
  refine ⟨_, (pss_cons
    (ps_set (i := 2) sc.nd rfl (Or.inl rfl) (pe_cal (ok__law_cell T) hr passL (pa_cons (pv 0) (pa_cons (pv 1) pa_nil))))
    (pss_cons
    (ps_if (pt_cmpR w_ge (pv 2) (pe_op w_pow pe_int pe_int) (nomark _)) (pss_one
      (ps_ret (pe_lst (pa_cons (pe_op w_sub (pv 2) (pe_op w_pow pe_int pe_int)) (pa_cons (pe_op w_mod (pe_callTy w_int rfl T.f_int (by decide +kernel) (pa_cons (pv 2) pa_nil)) pe_int) (pa_cons pe_int pa_nil)))))) pss_nil)
    (pss_one
    (ps_ret (pe_lst (pa_cons pe_int (pa_cons (pe_op w_add (pv 2) (pe_op w_mul pe_int (pe_op w_add (pv 1) pe_int))) (pa_cons pe_int pa_nil)))))))), ?_⟩
  have s0 : ∀ v0 v1 : V, start ["script", "k", "cell"] [v0, v1] = [some v0, some v1, none] := fun _ _ => rfl
  rw [s0]
  walk_at "vc"
  have cp : CPow 10 18 := by unfold CPow; decide
  refine ⟨a, ns, k, rfl, hS, hk, fun i => ?_⟩
  walk_at "vc"
  refine v_pow cp ?_
  walk_at "vc"
  refine v_dec (fun h => ?_) (fun h => ?_)
  · walk_at "vc"
    refine v_pow cp ?_
    walk_at "vc"
    refine ⟨Nat.le_of_ble_eq_true rfl, fun p hp => ?_⟩
    exact q p _ hp ((Same.refl H).vnew hp) ⟨_, _, _, upd_same⟩
  · walk_at "vc"
    refine ⟨Nat.le_of_ble_eq_true rfl, fun p hp => ?_⟩
    exact q p _ hp ((Same.refl H).vnew hp) ⟨_, _, _, upd_same⟩
def spLawDraw (K : PySem.W.Frag) : Sp := fun vs H Q _ => ∃ (p : Addr) (many : Int), vs = [.ref p, .int many] ∧ PoolAt H p ∧ 0 < many ∧ many < 2 ^ 30 ∧ ∀ v H', 0 ≤ v → v < many → But p H H' → PoolAt H' p → Q (.int v) H'
abbrev sLawDraw : Stmt := top 5
theorem sc__law_draw : FnScope ["pool", "many", "value", "mixed"] ["pool", "many"] (defScope sLawDraw) := ⟨rfl, rfl, rfl, by decide +kernel, rfl, by decide +kernel, by decide +kernel⟩
theorem ok__law_draw (T : Tx K mg) : Cal P w K mg base "_law_draw" 1 ["pool", "many"] (spLawDraw K) := by
  have sc := sc__law_draw
  refine Cal.of T.d__law_draw sc (fun _ _ _ _ _ _ us hl => match us, hl with | [_, _], _ => rfl) (by walk_at "vlen") (fun f cdv A outer s H vs Q E hr h => ?_)
  obtain ⟨p, many, rfl, ⟨a, b, c, hp⟩, h0, h1, q⟩ := h
  refine ⟨_, (pss_cons
    (ps_asg (pe_op w_add (pe_ix (k_ixL (K := K) rfl) (pv 0) pe_int (fun _ _ => rfl)) pe_int) (pg_sub (pv 0) pe_int set_list))
    (pss_cons
    (ps_if (pt_cmpR w_gt (pe_ix (k_ixL (K := K) rfl) (pv 0) pe_int (fun _ _ => rfl)) pe_int (nomark _)) (pss_cons
      (ps_set (i := 2) sc.nd rfl (Or.inl rfl) (pe_op w_mod (pe_callTy w_int rfl T.f_int (by decide +kernel) (pa_cons (pe_ix (k_ixL (K := K) rfl) (pv 0) pe_int (fun _ _ => rfl)) pa_nil)) (pv 1)))
      (pss_cons
      (ps_asg (pe_op w_fdiv (pe_ix (k_ixL (K := K) rfl) (pv 0) pe_int (fun _ _ => rfl)) (pv 1)) (pg_sub (pv 0) pe_int set_list))
      (pss_one
      (ps_ret (pv 2))))) pss_nil)
    (pss_cons
    (ps_set (i := 3) sc.nd rfl (Or.inl rfl) (pe_op w_mod (pe_callTy w_int rfl T.f_int (by decide +kernel) (pa_cons (pe_op w_add (pe_ix (k_ixL (K := K) rfl) (pv 0) pe_int (fun _ _ => rfl)) (pe_op w_mul pe_int (pe_ix (k_ixL (K := K) rfl) (pv 0) pe_int (fun _ _ => rfl)))) pa_nil)) pe_int))
    (pss_cons
    (ps_set (i := 3) sc.nd rfl (Or.inl rfl) (pe_op w_mod (pe_callTy w_int rfl T.f_int (by decide +kernel) (pa_cons (pe_op w_add (pe_op w_add (pe_op w_mul (pv 3) (pv 3)) (pe_op w_mul pe_int (pe_ix (k_ixL (K := K) rfl) (pv 0) pe_int (fun _ _ => rfl)))) (pe_ix (k_ixL (K := K) rfl) (pv 0) pe_int (fun _ _ => rfl))) pa_nil)) pe_int))
    (pss_cons
    (ps_set (i := 3) sc.nd rfl (Or.inl rfl) (pe_op w_mod (pe_callTy w_int rfl T.f_int (by decide +kernel) (pa_cons (pe_op w_add (pe_op w_mul (pv 3) (pv 3)) pe_int) pa_nil)) pe_int))
    (pss_one
    (ps_ret (pe_op w_mod (pe_callTy w_int rfl T.f_int (by decide +kernel) (pa_cons (pe_op w_fdiv (pv 3) pe_int) pa_nil)) (pv 1))))))))), ?_⟩
  have s0 : ∀ v0 v1 : V, start ["pool", "many", "value", "mixed"] [v0, v1] = [some v0, some v1, none, none] := fun _ _ => rfl
  rw [s0]
  walk_at "vc"
  refine v_dec (fun h => ?_) (fun h => ?_)
  · walk_at "vc"
    exact q _ _ (Int.emod_nonneg _ (by omega)) (Int.emod_lt_of_pos _ h0) (But.put But.write) ⟨_, _, _, upd_same⟩
  · walk_at "vc"
    exact q _ _ (Int.emod_nonneg _ (by omega)) (Int.emod_lt_of_pos _ h0) But.write ⟨_, _, _, upd_same⟩
theorem v_draw {K : PySem.W.Frag} {H : Hp} {p : Addr} {many : Int} {Q : VK} {E : XK} (hp : PoolAt H p) (h0 : 0 < many ∧ many < 2 ^ 30) (k : ∀ v H', 0 ≤ v → v < many → But p H H' → PoolAt H' p → Q (.int v) H') : spLawDraw K [.ref p, .int many] H Q E :=
  ⟨p, many, rfl, hp, h0.1, h0.2, k⟩
def spLawIsInteger (K : PySem.W.Frag) : Sp := fun vs H Q _ => ∃ i : Int, vs = [.int i] ∧ Q (.bl true) H
abbrev sLawIsInteger : Stmt := top 6
theorem sc__law_is_integer : FnScope ["told"] ["told"] (defScope sLawIsInteger) := ⟨rfl, rfl, rfl, by decide +kernel, rfl, by decide +kernel, by decide +kernel⟩
theorem ok__law_is_integer (T : Tx K mg) : Cal P w K mg base "_law_is_integer" 1 ["told"] (spLawIsInteger K) := by
  have sc := sc__law_is_integer
  refine Cal.of T.d__law_is_integer sc (fun _ _ _ _ _ _ us hl => match us, hl with | [_], _ => rfl) (by walk_at "vlen") (fun f cdv A outer s H vs Q E hr h => ?_)
  obtain ⟨i, rfl, q⟩ := h
  refine ⟨_, (pss_one
    (ps_ret (pe_and (pe_callB (k_isi (K := K) rfl) rfl T.f_isinstance boot_isinstance (pa_cons (pv 0) (pa_cons (pe_bltn (v := .ty "int") (u := .type "int") rfl T.f_int (by decide +kernel) rfl) pa_nil))) (pe_one (pe_not (pe_callB (k_isi (K := K) rfl) rfl T.f_isinstance boot_isinstance (pa_cons (pv 0) (pa_cons (pe_bltn (v := .ty "bool") (u := .type "bool") rfl T.f_bool (by decide +kernel) rfl) pa_nil)))))))), ?_⟩
  have s0 : ∀ v0 : V, start ["told"] [v0] = [some v0] := fun _ => rfl
  rw [s0]
  walk_at "vc"
  walk_at "vc"
  exact q
theorem PoolAt.ne {H : Hp} {p l : Addr} (h : PoolAt H p) (n : H l = none) : l ≠ p := fun e => by
  obtain ⟨a, b, c, h⟩ := h
  rw [e, h] at n
  cases n
theorem PoolAt.set {H : Hp} {p l : Addr} {o : HO} (h : PoolAt H p) (n : l ≠ p) : PoolAt (L2.upd H l o) p := by
  obtain ⟨a, b, c, h⟩ := h
  exact ⟨a, b, c, by rw [upd_ne n.symm]; exact h⟩
/-- a written list of ints at an open place -/
theorem at_some {ns : List Int} {v : Int} (h0 : 0 ≤ v) (h1 : v < ns.length) : ∃ n, atI (ns.map V.int) v = some (V.int n) ∧ n ∈ ns := by
  refine ⟨ns.getD v.toNat 0, at_ints h0 (by rw [List.length_map]; exact h1), ?_⟩
  rw [List.getD_eq_getElem?_getD, List.getElem?_eq_getElem (by omega : v.toNat < ns.length)]
  exact List.getElem_mem _
/-- some lengths -/
def Sizes (ns : List Int) : Prop := ns.length ≤ 12 ∧ ∀ s ∈ ns, 1 ≤ s ∧ s ≤ 600
def spLawLengths (K : PySem.W.Frag) : Sp := fun vs H Q _ => ∃ p : Addr, vs = [.ref p] ∧ PoolAt H p ∧ ∀ t ns H', Sizes ns → But p H H' → PoolAt H' p → H' t = some (.tup (ns.map V.int)) → Q (.ref t) H'
abbrev sLawLengths : Stmt := top 7
theorem sc__law_lengths : FnScope ["pool", "kind", "base", "out", "k", "size"] ["pool"] (defScope sLawLengths) := ⟨rfl, rfl, rfl, by decide +kernel, rfl, by decide +kernel, by decide +kernel⟩
theorem ok__law_lengths (T : Tx K mg) : Cal P w K mg base "_law_lengths" 2 ["pool"] (spLawLengths K) := by
  have sc := sc__law_lengths
  refine Cal.of T.d__law_lengths sc (fun _ _ _ _ _ _ us hl => match us, hl with | [_], _ => rfl) (by walk_at "vlen") (fun f cdv A outer s H vs Q E hr h => ?_)
  obtain ⟨p, rfl, hp, q⟩ := h
  refine ⟨_, (pss_cons
    (ps_set (i := 1) sc.nd rfl (Or.inl rfl) (pe_cal (ok__law_draw T) hr passL (pa_cons (pv 0) (pa_cons pe_int pa_nil))))
    (pss_cons
    (ps_set (i := 2) sc.nd rfl (Or.inl rfl) (pe_op w_add pe_int (pe_cal (ok__law_draw T) hr passL (pa_cons (pv 0) (pa_cons pe_int pa_nil)))))
    (pss_cons
    (ps_set (i := 3) sc.nd rfl (Or.inl rfl) (pe_lst pa_nil))
    (pss_cons
    (ps_for (passes_of rfl) rfl (pi_range1 rfl T.f_range (pa_cons (pe_ix (k_ixL (K := K) rfl) (pe_lst (pa_cons pe_int (pa_cons pe_int (pa_cons pe_int (pa_cons pe_int (pa_cons pe_int (pa_cons pe_int (pa_cons pe_int (pa_cons pe_int (pa_cons pe_int (pa_cons pe_int pa_nil))))))))))) (pe_cal (ok__law_draw T) hr passL (pa_cons (pv 0) (pa_cons pe_int pa_nil))) (fun _ _ => rfl)) pa_nil)) (pg_name (i := 4) sc.nd rfl (Or.inl rfl)) (pss_join
      (ps_if (pt_cmpR w_lt (pv 1) pe_int (nomark _)) (pss_one
        (ps_set (i := 5) sc.nd rfl (Or.inl rfl) (pe_op w_add pe_int (pe_cal (ok__law_draw T) hr passL (pa_cons (pv 0) (pa_cons pe_int pa_nil)))))) (pss_one
        (ps_if (pt_cmpR op_eq (pv 1) pe_int (nomark _)) (pss_one
          (ps_set (i := 5) sc.nd rfl (Or.inl rfl) (pe_op w_sub pe_int (pe_cal (ok__law_draw T) hr passL (pa_cons (pv 0) (pa_cons pe_int pa_nil)))))) (pss_one
          (ps_if (pt_cmpR op_eq (pv 1) pe_int (nomark _)) (pss_one
            (ps_set (i := 5) sc.nd rfl (Or.inl rfl) (pe_op w_mul (pv 2) (pe_op w_add pe_int (pe_cal (ok__law_draw T) hr passL (pa_cons (pv 0) (pa_cons pe_int pa_nil))))))) (pss_one
            (ps_set (i := 5) sc.nd rfl (Or.inl rfl) (pe_op w_add pe_int (pe_cal (ok__law_draw T) hr passL (pa_cons (pv 0) (pa_cons pe_int pa_nil)))))))))))
      (pss_join
      (ps_if (PW.pt (pw_and (k_tru (K := K) rfl (pv 3)) (pw_and1 (pt_cmpR op_eq (pe_cal (ok__law_draw T) hr passL (pa_cons (pv 0) (pa_cons pe_int pa_nil))) pe_int (nomark _))))) (pss_one
        (ps_set (i := 5) sc.nd rfl (Or.inl rfl) (pe_ix (k_ixL (K := K) rfl) (pv 3) (pe_cal (ok__law_draw T) hr passL (pa_cons (pv 0) (pa_cons (pe_callB (k_len (K := K) rfl) rfl T.f_len PySem.boot_len (pa_cons (pv 3) pa_nil)) pa_nil))) (fun _ _ => rfl)))) pss_nil)
      (pss_one
      (ps_expr (pe_bm PySem.F.plainAttrs_list PySem.F.slot_list_append PySem.F.type_list_append mt_append (pv 3) (pa_cons (pv 5) pa_nil)))))))
    (pss_one
    (ps_ret (pe_callTy (k_tup (K := K) rfl) rfl T.f_tuple (by decide +kernel) (pa_cons (pv 3) pa_nil)))))))), ?_⟩
  have s0 : ∀ v0 : V, start ["pool", "kind", "base", "out", "k", "size"] [v0] = [some v0, none, none, none, none, none] := fun _ => rfl
  rw [s0]
  walk_at "vc"
  refine ⟨p, 6, rfl, hp, by omega, by omega, fun kind H1 _ _ b1 p1 => ?_⟩
  walk_at "vc"
  refine ⟨p, 40, rfl, p1, by omega, by omega, fun base H2 hb0 hb1 b2 p2 => ?_⟩
  walk_at "vc"
  refine ⟨Nat.le_of_ble_eq_true rfl, fun l hl => ?_⟩
  have nl := p2.ne hl
  have b2' : But p H H2 := b1.trans b2
  have fl : H l = none := b2'.free hl nl
  walk_at "vc"
  refine ⟨Nat.le_of_ble_eq_true rfl, fun m hm => ?_⟩
  have nm := (p2.set nl).ne hm
  have fm : H m = none := (b2'.fresh fl).free hm nm
  have nlm : l ≠ m := ne_of_none upd_same hm
  walk_at "vc"
  refine v_draw ((p2.set nl).set nm) (by omega) fun d H3 hd0 hd1 b3 p3 => ?_
  have h3l : H3 l = some (.lst ([] : List V)) := b3 l _ nl (by rw [upd_ne nlm, upd_same])
  have h3m : H3 m = some (.lst (([2, 1, 3, 2, 3, 4, 5, 8, 12, 0] : List Int).map V.int)) := b3 m _ nm upd_same
  have b3' : But p H H3 := ((b2'.fresh fl).fresh fm).trans b3
  obtain ⟨n, hn, hn2⟩ := at_some (ns := [2, 1, 3, 2, 3, 4, 5, 8, 12, 0]) hd0 hd1
  have hn3 : 0 ≤ n ∧ n ≤ 12 := (by decide : ∀ n ∈ ([2, 1, 3, 2, 3, 4, 5, 8, 12, 0] : List Int), 0 ≤ n ∧ n ≤ 12) n hn2
  walk_at "vc"
  refine loop_range (fun i σ H' => ∃ (xs : List Int) (u z : Option V), σ = [some (.ref p), some (.int kind), some (.int (1 + base)), some (.ref l), u, z] ∧ But p H H' ∧ PoolAt H' p ∧ H' l = some (.lst (xs.map V.int)) ∧ xs.length = i ∧ ∀ s ∈ xs, 1 ≤ s ∧ s ≤ 600)
    ⟨[], none, none, rfl, b3', p3, h3l, rfl, fun _ h => by cases h⟩ ?_ ?_
  · rintro i σ H4 hi ⟨xs, u, z, rfl, b4, p4, h4, hlen, hxs⟩
    walk_at "vc"
    refine v_join (fun σ' H' => ∃ size : Int, σ' = [some (.ref p), some (.int kind), some (.int (1 + base)), some (.ref l), some (.int (0 + (i : Int))), some (.int size)] ∧ But p H H' ∧ PoolAt H' p ∧ H' l = some (.lst (xs.map V.int)) ∧ 1 ≤ size ∧ size ≤ 600) ?_ ?_
    · walk_at "vc"
      refine v_dec (fun _ => ?_) (fun _ => ?_)
      · walk_at "vc"
        refine v_draw p4 (by omega) fun d H5 a0 a1 b5 p5 => ?_
        walk_at "vc"
        exact ⟨1 + d, rfl, b4.trans b5, p5, b5 l _ nl h4, by omega, by omega⟩
      · walk_at "vc"
        refine v_decI (fun _ => ?_) (fun _ => ?_)
        · walk_at "vc"
          refine v_draw p4 (by omega) fun d H5 a0 a1 b5 p5 => ?_
          walk_at "vc"
          exact ⟨600 - d, rfl, b4.trans b5, p5, b5 l _ nl h4, by omega, by omega⟩
        · walk_at "vc"
          refine v_decI (fun _ => ?_) (fun _ => ?_)
          · walk_at "vc"
            refine v_draw p4 (by omega) fun d H5 a0 a1 b5 p5 => ?_
            walk_at "vc"
            have e1 : 1 * 1 ≤ (1 + base) * (1 + d) := Int.mul_le_mul (by omega) (by omega) (by omega) (by omega)
            have e2 : (1 + base) * (1 + d) ≤ 40 * 5 := Int.mul_le_mul (by omega) (by omega) (by omega) (by omega)
            exact ⟨(1 + base) * (1 + d), rfl, b4.trans b5, p5, b5 l _ nl h4, by omega, by omega⟩
          · walk_at "vc"
            refine v_draw p4 (by omega) fun d H5 a0 a1 b5 p5 => ?_
            walk_at "vc"
            exact ⟨1 + d, rfl, b4.trans b5, p5, b5 l _ nl h4, by omega, by omega⟩
    · rintro σ' H5 ⟨size, rfl, b5, p5, h5, z0, z1⟩
      refine v_join (fun σ' H' => ∃ size : Int, σ' = [some (.ref p), some (.int kind), some (.int (1 + base)), some (.ref l), some (.int (0 + (i : Int))), some (.int size)] ∧ But p H H' ∧ PoolAt H' p ∧ H' l = some (.lst (xs.map V.int)) ∧ 1 ≤ size ∧ size ≤ 600) ?_ ?_
      · walk_at "vc"
        refine v_ite (fun he => ?_) (fun he => ?_)
        · walk_at "vc"
          refine v_draw p5 (by omega) fun d H6 a0 a1 b6 p6 => ?_
          walk_at "vc"
          refine v_decI (fun _ => ?_) (fun _ => ?_)
          · have h6 : H6 l = some (.lst (xs.map V.int)) := b6 l _ nl h5
            have hx0 : 0 < xs.length := by
              cases xs with
              | nil => cases he
              | cons x r => exact Nat.succ_pos _
            have hx1 : ((xs.map V.int).length : Int) = xs.length := by rw [List.length_map]
            walk_at "vc"
            refine v_draw p6 ⟨by omega, by rw [hx1]; omega⟩ fun d H7 a0 a1 b7 p7 => ?_
            have h7 : H7 l = some (.lst (xs.map V.int)) := b7 l _ nl h6
            obtain ⟨n, hn, hn2⟩ := at_some (ns := xs) a0 (by omega)
            obtain ⟨g0, g1⟩ := hxs n hn2
            walk_at "vc"
            exact ⟨n, rfl, (b5.trans b6).trans b7, p7, h7, g0, g1⟩
          · walk_at "vc"
            exact ⟨size, rfl, b5.trans b6, p6, b6 l _ nl h5, z0, z1⟩
        · walk_at "vc"
          exact ⟨size, rfl, b5, p5, h5, z0, z1⟩
      · rintro σ' H6 ⟨size, rfl, b6, p6, h6, z0, z1⟩
        have hz : (xs.map V.int).length < sizeLine := by rw [List.length_map, sizeLine_eq]; omega
        walk_at "vc"
        refine ⟨xs ++ [size], some (.int (0 + (i : Int))), some (.int size), rfl, b6.fresh fl, p6.set nl, ?_, ?_, fun s hs => ?_⟩
        · rw [upd_same, List.map_append]
          rfl
        · rw [List.length_append, hlen]
          rfl
        · rcases List.mem_append.mp hs with hs | hs
          · exact hxs s hs
          · rw [List.mem_singleton.mp hs]
            exact ⟨z0, z1⟩
  · rintro σ H4 ⟨xs, u, z, rfl, b4, p4, h4, hlen, hxs⟩
    walk_at "vc"
    refine v_tupL (SqL.of h4) fun t ht => ?_
    refine q t xs _ ⟨by omega, hxs⟩ (b4.fresh (b4.free ht (p4.ne ht))) (p4.set (p4.ne ht)) upd_same
end
end RC
namespace RC
open PySem PySem.Spec PyProof.Rows L2
local macro_rules | `(tactic| walk_at "vside") => `(tactic| first | assumption | exact rfl | omega | exact Nat.le_of_ble_eq_true rfl | exact SqL.of (by assumption) | exact SqT.of (by assumption) | exact SqL.of upd_same | exact SqT.of upd_same | exact upd_same | exact Rd.of (by assumption) | exact Rd.of upd_same)
local macro_rules | `(tactic| walk_at "v1") => `(tactic| first
  | (with_reducible first
    | refine v_seq ?_ | refine v_asg ?_ | refine v_ret ?_ | refine v_retN ?_ | refine v_next ?_ | refine v_drop ?_ | refine v_if ?_ | refine v_test ?_ | refine v_tB ?_ | refine v_bl ?_ | refine v_not ?_ | refine v_and ?_ | refine v_or ?_
    | refine v_andV ?_ | refine v_orV ?_ | refine v_notV ?_ | refine v_ifE ?_ | refine v_C ?_ | refine v_op ?_ | refine v_un ?_ | refine v_CB ?_ | refine v_CKw ?_ | refine v_nil ?_ | refine v_cons ?_ | refine v_call ?_ | refine v_tup ?_ | refine v_lst ?_
    | refine v_revT ?_ | refine v_sl ?_ | refine v_noPart ?_ | refine v_part ?_ | refine v_partI ?_ | refine v_add ?_ | refine v_sub ?_ | refine v_lt ?_ | refine v_le ?_ | refine v_gt ?_ | refine v_ge ?_ | refine v_neg ?_ | refine v_abs ?_ | refine v_int ?_
    | refine v_min2 ?_ | refine v_max2 ?_ | refine v_gSub ?_ | refine v_BM ?_ | refine v_BM0 ?_ | refine v_dput ?_ | refine v_dget ?_ | refine v_dnotin ?_ | refine v_din ?_ | refine v_for ?_ | refine v_iRng1 ?_ | refine v_iRng2 ?_ | refine v_iList ?_ | refine v_iTup ?_ | refine v_lc ?_ | refine v_yes ?_ | refine v_tru ?_ | refine v_iteT ?_ | refine v_iteF ?_ | refine v_iteNT ?_ | refine v_iteNF ?_ | refine v_iKeys ?_)
  | ((with_reducible refine' v_var ?k1 ?_); (case k1 => exact rfl))
  | ((with_reducible refine' v_gName ?k1 ?_); (case k1 => (dsimp only [List.set, L2.wipe, List.map]; try exact rfl)))
  | ((with_reducible refine' v_mul ?k1 ?_); (case k1 => walk_at "vside"))
  | ((with_reducible refine' v_div ?k1 ?_); (case k1 => walk_at "vside"))
  | ((with_reducible refine' v_mod ?k1 ?_); (case k1 => walk_at "vside"))
  | ((with_reducible refine' v_eq ?k1 ?_); (case k1 => exact rfl))
  | ((with_reducible refine' v_ne ?k1 ?_); (case k1 => exact rfl))
  | ((with_reducible refine' v_isi ?k1 ?k2 ?_); (case k1 => first | exact .base (.int _) | exact .base (.bl _) | exact .base (.str _) | exact .base .non | exact .base (.lst (by assumption)) | exact .base (.tup (by assumption)) | exact .base (.dK (by assumption))); (case k2 => first | exact kit_int_int | exact kit_int_bool | exact kit_int_str | exact kit_int_tuple | exact kit_int_list | exact kit_int_dict | exact kit_bool_int | exact kit_bool_bool | exact kit_bool_str | exact kit_bool_tuple | exact kit_bool_list | exact kit_bool_dict | exact kit_str_int | exact kit_str_bool | exact kit_str_str | exact kit_str_tuple | exact kit_str_list | exact kit_str_dict | exact kit_tuple_int | exact kit_tuple_bool | exact kit_tuple_str | exact kit_tuple_tuple | exact kit_tuple_list | exact kit_tuple_dict | exact kit_list_int | exact kit_list_bool | exact kit_list_str | exact kit_list_tuple | exact kit_list_list | exact kit_list_dict | exact kit_dict_int | exact kit_dict_bool | exact kit_dict_str | exact kit_dict_tuple | exact kit_dict_list | exact kit_dict_dict | exact kit_NoneType_int | exact kit_NoneType_bool | exact kit_NoneType_str | exact kit_NoneType_tuple | exact kit_NoneType_list | exact kit_NoneType_dict))
  | ((with_reducible refine' v_truL ?k1 ?_); (case k1 => walk_at "vside"))
  | ((with_reducible refine' v_truT ?k1 ?_); (case k1 => walk_at "vside"))
  | ((with_reducible refine' v_maxD ?k1 ?_); (case k1 => walk_at "vside"))
  | ((with_reducible refine' v_minD ?k1 ?_); (case k1 => walk_at "vside"))
  | ((with_reducible refine' v_lenL ?k1 ?_); (case k1 => walk_at "vside"))
  | ((with_reducible refine' v_lenT ?k1 ?_); (case k1 => walk_at "vside"))
  | ((with_reducible refine' v_lenD ?k1 ?_); (case k1 => walk_at "vside"))
  | ((with_reducible refine' v_ixL ?k1 ?k2 ?_); (case k1 => walk_at "vside"); (case k2 => walk_at "vside"))
  | ((with_reducible refine' v_ixT ?k1 ?k2 ?_); (case k1 => walk_at "vside"); (case k2 => walk_at "vside"))
  | ((with_reducible refine' v_setL ?k1 ?k2 ?_); (case k1 => walk_at "vside"); (case k2 => walk_at "vside"))
  | ((with_reducible refine' v_isL ?k1 ?_); (case k1 => walk_at "vside"))
  | ((with_reducible refine' v_append ?k1 ?k2 ?_); (case k1 => walk_at "vside"); (case k2 => walk_at "vside"))
  | ((with_reducible refine' v_dputI ?k1 ?k2 ?_); (case k1 => walk_at "vside"); (case k2 => walk_at "vside"))
  | ((with_reducible refine' v_dgetI ?k1 ?k2 ?_); (case k1 => walk_at "vside"); (case k2 => walk_at "vside"))
  | ((with_reducible refine' v_dhasI ?k1 ?_); (case k1 => walk_at "vside"))
  | ((with_reducible refine' v_isqL ?k1 ?_); (case k1 => walk_at "vside"))
  | ((with_reducible refine' v_isqT ?k1 ?_); (case k1 => walk_at "vside"))
  | ((with_reducible refine' v_rng1 ?k1 ?_); (case k1 => walk_at "vside"))
  | ((with_reducible refine' v_rng2 ?k1 ?_); (case k1 => walk_at "vside")))
local macro_rules | `(tactic| walk_at "vc") => `(tactic| repeat walk_at "v1")
local macro_rules | `(tactic| walk_at "vlen") => `(tactic| (intro vs H Q E h; (repeat' (obtain ⟨_, h⟩ := h)); first | (subst_vars; rfl) | (simp_all)))
section
variable {P : Program} {w : World} {K : PySem.W.Frag} {mg : Str → Option Value} {base : Heap}
/-- a layer under way -/
structure Mid (ns : List Int) (i : Nat) (kvs : List (Key × V)) (new seen : List Int) : Prop where
  d : DictIs kvs (layer ns i seen)
  n : NewIs ns i seen new
  nd : new.Nodup
  sb : ∀ x ∈ seen, 0 ≤ x ∧ x < 36001
theorem layer_bound {ns : List Int} (hs : Sizes ns) {i : Nat} (hi : i ≤ 60) {seen : List Int} (sb : ∀ x ∈ seen, 0 ≤ x ∧ x < 36001) (t : Int) (k : Nat) (h : layer ns i seen t = some k) : 0 ≤ t ∧ t < (36001 : Nat) := by
  unfold layer at h
  cases q : fewB ns i t with
  | some j =>
    have := few_bound (M := 600) hs.2 (by omega) q
    omega
  | none =>
    rw [q] at h
    simp only at h
    by_cases m : t ∈ seen
    · exact sb t m
    · rw [if_neg m] at h
      cases h
theorem Mid.small {ns : List Int} (hs : Sizes ns) {i : Nat} (hi : i ≤ 60) {kvs : List (Key × V)} {new seen : List Int} (m : Mid ns i kvs new seen) : kvs.length < sizeLine ∧ (new.map V.int).length < sizeLine := by
  have h1 := m.d.bound (layer_bound hs hi m.sb)
  have h2 := nodup_bound 36001 new m.nd fun x hx => m.sb x ((m.n x).mp hx).2
  rw [List.length_map, sizeLine_eq]
  omega
theorem Mid.add {ns : List Int} {i : Nat} {kvs : List (Key × V)} {new seen : List Int} {t : Int} (m : Mid ns i kvs new seen) (h : layer ns i seen t = none) (hb : 0 ≤ t ∧ t < 36001) :
    Mid ns i (putK kvs (Sum.inl t) (.int ((i + 1 : Nat) : Int))) (new ++ [t]) (seen ++ [t]) := by
  refine ⟨(m.d.put (k := i + 1) h).of_eq fun x => (layer_new h x).symm, m.n.add h, ?_, fun x hx => ?_⟩
  · rw [List.nodup_append]
    refine ⟨m.nd, by simp, fun a ha b hb e => ?_⟩
    have e2 : b = t := by simpa using hb
    subst e2 e
    have := (m.n a).mp ha
    unfold layer at h
    rw [this.1] at h
    simp only at h
    rw [if_pos this.2] at h
    cases h
  · rcases List.mem_append.mp hx with hx | hx
    · exact m.sb x hx
    · rw [List.mem_singleton.mp hx]
      exact hb
theorem Mid.old {ns : List Int} {i : Nat} {kvs : List (Key × V)} {new seen : List Int} {t : Int} {k : Nat} (m : Mid ns i kvs new seen) (h : layer ns i seen t = some k) (hb : 0 ≤ t ∧ t < 36001) : Mid ns i kvs new (seen ++ [t]) := by
  refine ⟨m.d.of_eq fun x => (layer_old h x).symm, m.n.old h, m.nd, fun x hx => ?_⟩
  rcases List.mem_append.mp hx with hx | hx
  · exact m.sb x hx
  · rw [List.mem_singleton.mp hx]
    exact hb
/-- the totals of the first a of ls with all lengths, of the next one with the first b -/
def seenB (ns ls : List Int) (a b : Nat) : List Int := ((ls.take a).flatMap fun t => ns.map fun s => t + s) ++ ((ls.drop a).take 1).flatMap fun t => (ns.take b).map fun s => t + s
theorem seen_step {ns ls : List Int} {a b : Nat} {t s : Int} (ht : ls[a]? = some t) (hs : ns[b]? = some s) : seenB ns ls a (b + 1) = seenB ns ls a b ++ [t + s] := by
  have e : (ls.drop a).take 1 = [t] := by
    obtain ⟨h1, h2⟩ := List.getElem?_eq_some_iff.mp ht
    rw [List.drop_eq_getElem_cons h1, h2]
    rfl
  unfold seenB
  rw [e, take_snoc hs]
  simp
theorem seen_row {ns ls : List Int} {a : Nat} {t : Int} (ht : ls[a]? = some t) : seenB ns ls a ns.length = seenB ns ls (a + 1) 0 := by
  have e : (ls.drop a).take 1 = [t] := by
    obtain ⟨h1, h2⟩ := List.getElem?_eq_some_iff.mp ht
    rw [List.drop_eq_getElem_cons h1, h2]
    rfl
  unfold seenB
  rw [e, take_snoc ht, List.take_length]
  simp
theorem seen_all {ns ls : List Int} : seenB ns ls ls.length 0 = ls.flatMap fun t => ns.map fun s => t + s := by
  unfold seenB
  simp
def spFewestSums (K : PySem.W.Frag) : Sp := fun vs H Q _ => ∃ (a : Addr) (ns : List Int) (m : Nat), vs = [.ref a, .int m] ∧ SqT K H a (ns.map V.int) ∧ Sizes ns ∧ m ≤ 60 ∧
  ∀ d kvs H', H d = none → Same H H' → H' d = some (.dK kvs) → DictIs kvs (fewB ns m) → Q (.ref d) H'
abbrev sFewestSums : Stmt := top 1
theorem sc_fewest_sums : FnScope ["lengths", "most", "fewest", "latest_sums", "members", "new_sums", "total", "length"] ["lengths", "most"] (defScope sFewestSums) := ⟨rfl, rfl, rfl, by decide +kernel, rfl, by decide +kernel, by decide +kernel⟩
theorem ok_fewest_sums (T : Tx K mg) : Cal P w K mg base "fewest_sums" 1 ["lengths", "most"] (spFewestSums K) := by
  have sc := sc_fewest_sums
  refine Cal.of T.d_fewest_sums sc (fun _ _ _ _ _ _ us hl => match us, hl with | [_, _], _ => rfl) (by walk_at "vlen") (fun f cdv A outer s H vs Q E hr h => ?_)
  obtain ⟨a, ns, m, rfl, hS, hz, hm, q⟩ := h
  refine ⟨_, (pss_cons
    (ps_set (i := 2) sc.nd rfl (Or.inl rfl) (pe_disp (pps_cons pe_int pe_int pps_nil) rfl rfl (by simp) (by decide)))
    (pss_cons
    (ps_set (i := 3) sc.nd rfl (Or.inl rfl) (pe_lst (pa_cons pe_int pa_nil)))
    (pss_cons
    (ps_for (passes_of rfl) rfl (pi_range2 rfl T.f_range (pa_cons pe_int (pa_cons (pe_op w_add (pv 1) pe_int) pa_nil))) (pg_name (i := 4) sc.nd rfl (Or.inl rfl)) (pss_cons
      (ps_set (i := 5) sc.nd rfl (Or.inl rfl) (pe_lst pa_nil))
      (pss_cons
      (ps_for (passes_of rfl) rfl (k_iL (K := K) rfl (pv 3)) (pg_name (i := 6) sc.nd rfl (Or.inl rfl)) (pss_one
        (ps_for (passes_of rfl) rfl (k_iT (K := K) rfl (pv 0)) (pg_name (i := 7) sc.nd rfl (Or.inl rfl)) (pss_one
          (ps_if (pt_cmp (pc_dnotin (hu_of hr) (pe_op w_add (pv 6) (pv 7)) (pv 2))) (pss_cons
            (ps_dput (hu_of hr) (pv 2) (pe_op w_add (pv 6) (pv 7)) (pv 4) rfl)
            (pss_one
            (ps_expr (pe_bm PySem.F.plainAttrs_list PySem.F.slot_list_append PySem.F.type_list_append mt_append (pv 5) (pa_cons (pe_op w_add (pv 6) (pv 7)) pa_nil))))) pss_nil)))))
      (pss_one
      (ps_set (i := 3) sc.nd rfl (Or.inl rfl) (pe_callTy (k_list (K := K) rfl) rfl T.f_list (by decide +kernel) (pa_cons (pv 5) pa_nil)))))))
    (pss_one
    (ps_ret (pv 2)))))), ?_⟩
  have s0 : ∀ v0 v1 : V, start ["lengths", "most", "fewest", "latest_sums", "members", "new_sums", "total", "length"] [v0, v1] = [some v0, some v1, none, none, none, none, none, none] := fun _ _ => rfl
  rw [s0]
  walk_at "vc"
  refine fun d hd => ⟨upd_same, [(Sum.inl 0, V.int 0)], rfl, by decide, ?_⟩
  rw [upd_upd]
  walk_at "vc"
  refine ⟨Nat.le_of_ble_eq_true rfl, fun l hl => ?_⟩
  have ndl : d ≠ l := ne_of_none upd_same hl
  have fl : H l = none := by rw [upd_ne ndl.symm] at hl; exact hl
  walk_at "vc"
  have e1 : ((m : Int) + 1 - 1).toNat = m := by omega
  rw [e1]
  have hin : ∀ s ∈ ns, 1 ≤ s ∧ s ≤ 600 := hz.2
  refine loop_range (fun i σ H' => ∃ (l : Addr) (ls : List Int) (kvs : List (Key × V)) (u1 u2 u3 u4 : Option V), σ = [some (.ref a), some (.int m), some (.ref d), some (.ref l), u1, u2, u3, u4] ∧ Same H H' ∧ H l = none ∧ l ≠ d ∧
      H' d = some (.dK kvs) ∧ H' l = some (.lst (ls.map V.int)) ∧ DictIs kvs (fewB ns i) ∧ ∀ t, t ∈ ls ↔ fewB ns i t = some i)
    ⟨l, [0], _, none, none, none, none, rfl, (Same.refl H).fresh hd |>.fresh fl, fl, ndl.symm, (by rw [upd_ne ndl]; exact upd_same), upd_same, dict0, fun t => ?_⟩ ?_ ?_
  · rw [List.mem_singleton]
    show t = 0 ↔ (if t = 0 then some 0 else none) = some 0
    by_cases e : t = 0
    · rw [if_pos e]; exact ⟨fun _ => rfl, fun _ => e⟩
    · rw [if_neg e]; exact ⟨fun h => absurd h e, fun h => by cases h⟩
  · rintro i σ H1 hi ⟨l, ls, kvs, u1, u2, u3, u4, rfl, s1, fl, nld, h1d, h1l, D1, L1⟩
    walk_at "vc"
    refine ⟨Nat.zero_le _, fun n hn => ?_⟩
    have fn : H n = none := s1.free hn
    have nnd : n ≠ d := (ne_of_none h1d hn).symm
    have nnl : n ≠ l := (ne_of_none h1l hn).symm
    have s2 : Same H (upd H1 n (.lst [])) := s1.fresh fn
    walk_at "vc"
    refine v_isqL (xs := ls.map V.int) (SqL.of (by rw [upd_ne nnl.symm]; exact h1l)) ?_
    refine loop_list (xs := ls.map V.int) (fun j σ H' => ∃ (kvs : List (Key × V)) (new : List Int) (u3 u4 : Option V), σ = [some (.ref a), some (.int m), some (.ref d), some (.ref l), some (.int (1 + (i : Int))), some (.ref n), u3, u4] ∧ Same H H' ∧
        H' d = some (.dK kvs) ∧ H' l = some (.lst (ls.map V.int)) ∧ H' n = some (.lst (new.map V.int)) ∧ Mid ns i kvs new (seenB ns ls j 0))
      ⟨kvs, [], u3, u4, rfl, s2, (by rw [upd_ne nnd.symm]; exact h1d), (by rw [upd_ne nnl.symm]; exact h1l), upd_same, ⟨D1.of_eq fun t => ?_, fun x => ?_, List.nodup_nil, fun x hx => ?_⟩⟩
      (fun j σ H' _ ⟨_, _, _, _, _, _, _, h, _⟩ => SqL.of h) ?_ ?_
    · unfold layer seenB
      cases fewB ns i t <;> simp
    · unfold seenB
      simp
    · unfold seenB at hx
      simp at hx
    · rintro j x σ H2 hx ⟨kvs, new, u3, u4, rfl, s2, h2d, h2l, h2n, M2⟩
      obtain ⟨t, ht, rfl⟩ : ∃ t, ls[j]? = some t ∧ V.int t = x := by
        rw [List.getElem?_map] at hx
        cases e : ls[j]? with
        | none => rw [e] at hx; cases hx
        | some t => rw [e] at hx; exact ⟨t, rfl, Option.some.inj hx⟩
      have htb := few_bound (M := 600) hin (by omega) ((L1 t).mp (List.mem_of_getElem? ht))
      walk_at "vc"
      refine v_isqT (xs := ns.map V.int) (s2.vtup hS) ?_
      refine loop_tup (xs := ns.map V.int) (fun b σ H' => ∃ (kvs : List (Key × V)) (new : List Int) (u4 : Option V), σ = [some (.ref a), some (.int m), some (.ref d), some (.ref l), some (.int (1 + (i : Int))), some (.ref n), some (.int t), u4] ∧ Same H H' ∧
          H' d = some (.dK kvs) ∧ H' l = some (.lst (ls.map V.int)) ∧ H' n = some (.lst (new.map V.int)) ∧ Mid ns i kvs new (seenB ns ls j b))
        ⟨kvs, new, u4, rfl, s2, h2d, h2l, h2n, M2⟩ (fun b σ H' _ ⟨_, _, _, _, s3, _⟩ => s3.vtup hS) ?_ ?_
      · rintro b x σ H3 hx ⟨kvs, new, u4, rfl, s3, h3d, h3l, h3n, M3⟩
        obtain ⟨y, hy, rfl⟩ : ∃ y, ns[b]? = some y ∧ V.int y = x := by
          rw [List.getElem?_map] at hx
          cases e : ns[b]? with
          | none => rw [e] at hx; cases hx
          | some t => rw [e] at hx; exact ⟨t, rfl, Option.some.inj hx⟩
        have hyb := hin y (List.mem_of_getElem? hy)
        have hb : 0 ≤ t + y ∧ t + y < 36001 := by omega
        obtain ⟨zk, zn⟩ := M3.small hz (by omega)
        have es := seen_step ht hy
        walk_at "vc"
        refine v_iteN (fun h => ?_) (fun h => ?_)
        · have hno : layer ns i (seenB ns ls j b) (t + y) = none := by
            rw [M3.d.val] at h
            cases e : layer ns i (seenB ns ls j b) (t + y) with
            | none => rfl
            | some k => rw [e] at h; cases h
          walk_at "vc"
          have h4n : (upd H3 d (.dK (putK kvs (Sum.inl (t + y)) (.int (1 + (i : Int)))))) n = some (.lst (new.map V.int)) := by rw [upd_ne nnd]; exact h3n
          walk_at "vc"
          refine ⟨putK kvs (Sum.inl (t + y)) (.int (1 + (i : Int))), new ++ [t + y], some (.int y), rfl, (s3.fresh hd).fresh fn, (by rw [upd_ne nnd.symm]; exact upd_same), (by rw [upd_ne nnl.symm, upd_ne nld]; exact h3l), ?_, ?_⟩
          · rw [upd_same, List.map_append]
            rfl
          · rw [es, show (1 + (i : Int)) = ((i + 1 : Nat) : Int) by omega]
            exact M3.add hno hb
        · obtain ⟨k, hk⟩ : ∃ k, layer ns i (seenB ns ls j b) (t + y) = some k := by
            rw [M3.d.val] at h
            cases e : layer ns i (seenB ns ls j b) (t + y) with
            | none => rw [e] at h; cases h
            | some k => exact ⟨k, rfl⟩
          walk_at "vc"
          exact ⟨kvs, new, some (.int y), rfl, s3, h3d, h3l, h3n, by rw [es]; exact M3.old hk hb⟩
      · rintro σ H3 ⟨kvs, new, u4, rfl, s3, h3d, h3l, h3n, M3⟩
        rw [List.length_map, seen_row ht] at M3
        exact ⟨kvs, new, some (.int t), u4, rfl, s3, h3d, h3l, h3n, M3⟩
    · rintro σ H2 ⟨kvs, new, u3, u4, rfl, s2, h2d, h2l, h2n, M2⟩
      rw [List.length_map, seen_all] at M2
      walk_at "vc"
      refine v_listL (SqL.of h2n) fun c hc => ?_
      have fc : H c = none := s2.free hc
      have ncd : c ≠ d := (ne_of_none h2d hc).symm
      walk_at "vc"
      exact ⟨c, new, kvs, _, _, u3, u4, rfl, s2.fresh fc, fc, ncd, (by rw [upd_ne ncd.symm]; exact h2d), upd_same, M2.d.of_eq (layer_end L1), new_end L1 M2.n⟩
  · rintro σ H1 ⟨l, ls, kvs, u1, u2, u3, u4, rfl, s1, fl, nld, h1d, h1l, D1, L1⟩
    walk_at "vc"
    exact q d kvs H1 hd s1 h1d D1
end
end RC
namespace RC
open PySem PySem.Spec PyProof.Rows L2
local macro_rules | `(tactic| walk_at "vside") => `(tactic| first | assumption | exact rfl | omega | exact Nat.le_of_ble_eq_true rfl | exact SqL.of (by assumption) | exact SqT.of (by assumption) | exact SqL.of upd_same | exact SqT.of upd_same | exact upd_same | exact Rd.of (by assumption) | exact Rd.of upd_same)
local macro_rules | `(tactic| walk_at "v1") => `(tactic| first
  | (with_reducible first
    | refine v_seq ?_ | refine v_asg ?_ | refine v_ret ?_ | refine v_retN ?_ | refine v_next ?_ | refine v_drop ?_ | refine v_if ?_ | refine v_test ?_ | refine v_tB ?_ | refine v_bl ?_ | refine v_not ?_ | refine v_and ?_ | refine v_or ?_
    | refine v_andV ?_ | refine v_orV ?_ | refine v_notV ?_ | refine v_ifE ?_ | refine v_C ?_ | refine v_op ?_ | refine v_un ?_ | refine v_CB ?_ | refine v_CKw ?_ | refine v_nil ?_ | refine v_cons ?_ | refine v_call ?_ | refine v_tup ?_ | refine v_lst ?_
    | refine v_revT ?_ | refine v_sl ?_ | refine v_noPart ?_ | refine v_part ?_ | refine v_partI ?_ | refine v_add ?_ | refine v_sub ?_ | refine v_lt ?_ | refine v_le ?_ | refine v_gt ?_ | refine v_ge ?_ | refine v_neg ?_ | refine v_abs ?_ | refine v_int ?_
    | refine v_min2 ?_ | refine v_max2 ?_ | refine v_gSub ?_ | refine v_BM ?_ | refine v_BM0 ?_ | refine v_dput ?_ | refine v_dget ?_ | refine v_dnotin ?_ | refine v_din ?_ | refine v_for ?_ | refine v_iRng1 ?_ | refine v_iRng2 ?_ | refine v_iList ?_ | refine v_iTup ?_ | refine v_lc ?_ | refine v_yes ?_ | refine v_tru ?_ | refine v_iteT ?_ | refine v_iteF ?_ | refine v_iteNT ?_ | refine v_iteNF ?_ | refine v_iKeys ?_)
  | ((with_reducible refine' v_var ?k1 ?_); (case k1 => exact rfl))
  | ((with_reducible refine' v_gName ?k1 ?_); (case k1 => (dsimp only [List.set, L2.wipe, List.map]; try exact rfl)))
  | ((with_reducible refine' v_mul ?k1 ?_); (case k1 => walk_at "vside"))
  | ((with_reducible refine' v_div ?k1 ?_); (case k1 => walk_at "vside"))
  | ((with_reducible refine' v_mod ?k1 ?_); (case k1 => walk_at "vside"))
  | ((with_reducible refine' v_eq ?k1 ?_); (case k1 => exact rfl))
  | ((with_reducible refine' v_ne ?k1 ?_); (case k1 => exact rfl))
  | ((with_reducible refine' v_isi ?k1 ?k2 ?_); (case k1 => first | exact .base (.int _) | exact .base (.bl _) | exact .base (.str _) | exact .base .non | exact .base (.lst (by assumption)) | exact .base (.tup (by assumption)) | exact .base (.dK (by assumption))); (case k2 => first | exact kit_int_int | exact kit_int_bool | exact kit_int_str | exact kit_int_tuple | exact kit_int_list | exact kit_int_dict | exact kit_bool_int | exact kit_bool_bool | exact kit_bool_str | exact kit_bool_tuple | exact kit_bool_list | exact kit_bool_dict | exact kit_str_int | exact kit_str_bool | exact kit_str_str | exact kit_str_tuple | exact kit_str_list | exact kit_str_dict | exact kit_tuple_int | exact kit_tuple_bool | exact kit_tuple_str | exact kit_tuple_tuple | exact kit_tuple_list | exact kit_tuple_dict | exact kit_list_int | exact kit_list_bool | exact kit_list_str | exact kit_list_tuple | exact kit_list_list | exact kit_list_dict | exact kit_dict_int | exact kit_dict_bool | exact kit_dict_str | exact kit_dict_tuple | exact kit_dict_list | exact kit_dict_dict | exact kit_NoneType_int | exact kit_NoneType_bool | exact kit_NoneType_str | exact kit_NoneType_tuple | exact kit_NoneType_list | exact kit_NoneType_dict))
  | ((with_reducible refine' v_truL ?k1 ?_); (case k1 => walk_at "vside"))
  | ((with_reducible refine' v_truT ?k1 ?_); (case k1 => walk_at "vside"))
  | ((with_reducible refine' v_maxD ?k1 ?_); (case k1 => walk_at "vside"))
  | ((with_reducible refine' v_minD ?k1 ?_); (case k1 => walk_at "vside"))
  | ((with_reducible refine' v_lenL ?k1 ?_); (case k1 => walk_at "vside"))
  | ((with_reducible refine' v_lenT ?k1 ?_); (case k1 => walk_at "vside"))
  | ((with_reducible refine' v_lenD ?k1 ?_); (case k1 => walk_at "vside"))
  | ((with_reducible refine' v_ixL ?k1 ?k2 ?_); (case k1 => walk_at "vside"); (case k2 => walk_at "vside"))
  | ((with_reducible refine' v_ixT ?k1 ?k2 ?_); (case k1 => walk_at "vside"); (case k2 => walk_at "vside"))
  | ((with_reducible refine' v_setL ?k1 ?k2 ?_); (case k1 => walk_at "vside"); (case k2 => walk_at "vside"))
  | ((with_reducible refine' v_isL ?k1 ?_); (case k1 => walk_at "vside"))
  | ((with_reducible refine' v_append ?k1 ?k2 ?_); (case k1 => walk_at "vside"); (case k2 => walk_at "vside"))
  | ((with_reducible refine' v_dputI ?k1 ?k2 ?_); (case k1 => walk_at "vside"); (case k2 => walk_at "vside"))
  | ((with_reducible refine' v_dgetI ?k1 ?k2 ?_); (case k1 => walk_at "vside"); (case k2 => walk_at "vside"))
  | ((with_reducible refine' v_dhasI ?k1 ?_); (case k1 => walk_at "vside"))
  | ((with_reducible refine' v_isqL ?k1 ?_); (case k1 => walk_at "vside"))
  | ((with_reducible refine' v_isqT ?k1 ?_); (case k1 => walk_at "vside"))
  | ((with_reducible refine' v_rng1 ?k1 ?_); (case k1 => walk_at "vside"))
  | ((with_reducible refine' v_rng2 ?k1 ?_); (case k1 => walk_at "vside")))
local macro_rules | `(tactic| walk_at "vc") => `(tactic| repeat walk_at "v1")
local macro_rules | `(tactic| walk_at "vlen") => `(tactic| (intro vs H Q E h; (repeat' (obtain ⟨_, h⟩ := h)); first | (subst_vars; rfl) | (simp_all)))
section
variable {P : Program} {w : World} {K : PySem.W.Frag} {mg : Str → Option Value} {base : Heap}
/-- the law's table -/
def tabL (ns : List Int) (m n : Nat) : List Int := (List.range n).map fun (k : Nat) => leastB ns m (k : Int)
theorem tabL_len {ns : List Int} {m n : Nat} : (tabL ns m n).length = n := by
  unfold tabL
  rw [List.length_map, List.length_range]
theorem tabL_at {ns : List Int} {m n : Nat} {t : Int} (h0 : 0 ≤ t) (h1 : t < n) : atI ((tabL ns m n).map V.int) t = some (V.int (leastB ns m t)) := by
  refine at_get h0 ?_
  unfold tabL
  rw [List.map_map, List.getElem?_map, List.getElem?_range (by omega)]
  show some (V.int (leastB ns m ((t.toNat : Nat) : Int))) = _
  rw [Int.toNat_of_nonneg h0]
theorem tabL_succ {ns : List Int} {m n : Nat} : tabL ns m (n + 1) = tabL ns m n ++ [leastB ns m n] := by
  unfold tabL
  rw [List.range_succ, List.map_append]
  rfl
theorem least_zero {ns : List Int} {m : Nat} : leastB ns m 0 = 0 := by
  obtain ⟨k, h1, h2⟩ := few_le (ns := ns) (m := m) (t := 0) (Nat.zero_le m) rfl
  rw [least_some h1]
  omega
def spLawDue (K : PySem.W.Frag) : Sp := fun vs H Q _ => ∃ (a : Addr) (ns : List Int) (m : Nat), vs = [.ref a, .int m] ∧ SqT K H a (ns.map V.int) ∧ Sizes ns ∧ m ≤ 60 ∧
  ∀ d kvs H', H d = none → Same H H' → H' d = some (.dK kvs) → DictIs kvs (fewB ns m) → Q (.ref d) H'
abbrev sLawDue : Stmt := top 8
theorem sc__law_due : FnScope ["sizes", "most", "top", "least", "total", "ways", "best", "before", "due", "size"] ["sizes", "most"] (defScope sLawDue) := ⟨rfl, rfl, rfl, by decide +kernel, rfl, by decide +kernel, by decide +kernel⟩
theorem ok__law_due (T : Tx K mg) : Cal P w K mg base "_law_due" 1 ["sizes", "most"] (spLawDue K) := by
  have sc := sc__law_due
  refine Cal.of T.d__law_due sc (fun _ _ _ _ _ _ us hl => match us, hl with | [_, _], _ => rfl) (by walk_at "vlen") (fun f cdv A outer s H vs Q E hr h => ?_)
  obtain ⟨a, ns, m, rfl, hS, hz, hm, q⟩ := h
  -- cells: ['least', 'total']
  refine ⟨_, (pss_cons
    (ps_set (i := 2) sc.nd rfl (Or.inl rfl) (pe_op w_mul (pv 1) (pe_callBK (k_maxD (K := K) rfl rfl (hu_of hr)) rfl T.f_max (by decide +kernel) (pa_cons (pv 0) pa_nil) (pk_cons pe_int pk_nil))))
    (pss_cons
    (ps_set (i := 3) sc.nd rfl (Or.inr rfl) (pe_lst (pa_cons pe_int pa_nil)))
    (pss_cons
    (ps_for (passes_of rfl) rfl (pi_range2 rfl T.f_range (pa_cons pe_int (pa_cons (pe_op w_add (pv 2) pe_int) pa_nil))) (pg_name (i := 4) sc.nd rfl (Or.inr rfl)) (pss_cons
      (ps_setLc (i := 5) (own := [("size", 9)]) rfl sc.nd rfl rfl (sw_true rfl rfl rfl (by decide +kernel)) (k_iT (K := K) rfl (pv 0)) (blkOk_by (N := ["sizes", "most", "top", "least", "total", "ways", "best", "before", "due", "size"]) (sc := defScope sLawDue) (by decide +kernel)) (fun _ _ _ _ _ => (pg_name (i := 9) sc.nd rfl (Or.inl rfl))) (fun _ _ _ _ _ => (pts_one (pt_cmpR w_le (pv 9) (pv 4) (nomark _)))) (fun _ _ _ _ _ => (pe_ix (k_ixL (K := K) rfl) (pv 3) (pe_op w_sub (pv 4) (pv 9)) (fun _ _ => rfl))))
      (pss_cons
      (ps_set (i := 6) sc.nd rfl (Or.inl rfl) (pe_op w_add (pv 1) pe_int))
      (pss_cons
      (ps_for (passes_of rfl) rfl (k_iL (K := K) rfl (pv 5)) (pg_name (i := 7) sc.nd rfl (Or.inl rfl)) (pss_one
        (ps_set (i := 6) sc.nd rfl (Or.inl rfl) (pe_callB (w_min2 rfl) rfl T.f_min (by decide +kernel) (pa_cons (pv 6) (pa_cons (pe_op w_add (pv 7) pe_int) pa_nil))))))
      (pss_one
      (ps_expr (pe_bm PySem.F.plainAttrs_list PySem.F.slot_list_append PySem.F.type_list_append mt_append (pv 3) (pa_cons (pv 6) pa_nil))))))))
    (pss_cons
    (ps_set (i := 8) sc.nd rfl (Or.inl rfl) pe_dnewK)
    (pss_cons
    (ps_for (passes_of rfl) rfl (pi_range1 rfl T.f_range (pa_cons (pe_op w_add (pv 2) pe_int) pa_nil)) (pg_name (i := 4) sc.nd rfl (Or.inr rfl)) (pss_one
      (ps_if (pt_cmpR w_le (pe_ix (k_ixL (K := K) rfl) (pv 3) (pv 4) (fun _ _ => rfl)) (pv 1) (nomark _)) (pss_one
        (ps_dput (hu_of hr) (pv 8) (pv 4) (pe_ix (k_ixL (K := K) rfl) (pv 3) (pv 4) (fun _ _ => rfl)) rfl)) pss_nil)))
    (pss_one
    (ps_ret (pv 8)))))))), ?_⟩
  have s0 : ∀ v0 v1 : V, start ["sizes", "most", "top", "least", "total", "ways", "best", "before", "due", "size"] [v0, v1] = [some v0, some v1, none, none, none, none, none, none, none, none] := fun _ _ => rfl
  rw [s0]
  walk_at "vc"
  obtain ⟨M, eM⟩ : ∃ M, M = maxI 0 ns := ⟨_, rfl⟩
  rw [← eM]
  obtain ⟨g1, g2⟩ := maxI_spec 0 ns
  rw [← eM] at g1 g2
  have hM : 0 ≤ M ∧ M ≤ 600 := by
    rcases g2 with g | ⟨_, g⟩
    · have := hz.2 M g
      omega
    · omega
  have hin : ∀ s ∈ ns, 1 ≤ s ∧ s ≤ M := fun s hs => ⟨(hz.2 s hs).1, g1 s hs⟩
  have ht0 : 0 ≤ (m : Int) * M := Int.mul_nonneg (by omega) hM.1
  have ht1 : (m : Int) * M ≤ 60 * 600 := Int.mul_le_mul (by omega) hM.2 hM.1 (by omega)
  obtain ⟨top, etop⟩ : ∃ top : Nat, (m : Int) * M = top := ⟨((m : Int) * M).toNat, by omega⟩
  rw [etop] at ht0 ht1 ⊢
  refine ⟨Nat.le_of_ble_eq_true rfl, fun l hl => ?_⟩
  walk_at "vc"
  have e1 : ((top : Int) + 1 - 1).toNat = top := by omega
  rw [e1]
  refine loop_range (fun i σ H' => ∃ (u4 u5 u6 u7 : Option V), σ = [some (.ref a), some (.int m), some (.int top), some (.ref l), u4, u5, u6, u7, none, none] ∧ Same H H' ∧ H' l = some (.lst ((tabL ns m (i + 1)).map V.int)))
    ⟨none, none, none, none, rfl, (Same.refl H).fresh hl, ?_⟩ ?_ ?_
  · rw [upd_same]
    show some (HO.lst [V.int 0]) = some (HO.lst [V.int (leastB ns m ((0 : Nat) : Int))])
    rw [show ((0 : Nat) : Int) = 0 from rfl, least_zero]
  · rintro i σ H1 hi ⟨u4, u5, u6, u7, rfl, s1, h1⟩
    walk_at "vc"
    refine v_isqT (xs := ns.map V.int) (s1.vtup hS) fun D hD => ?_
    have fD : H D = none := s1.free hD
    have nD : D ≠ l := (ne_of_none h1 hD).symm
    refine lc_t (xs := ns.map V.int) (fun j H' => Same H H' ∧ H' l = some (.lst ((tabL ns m (i + 1)).map V.int)) ∧ H' D = some (.lst ((((ns.take j).filter fun s => decide (s ≤ 1 + (i : Int))).map fun s => leastB ns m (1 + (i : Int) - s)).map V.int)))
      ⟨s1.fresh fD, (by rw [upd_ne nD.symm]; exact h1), upd_same⟩ (fun j H' _ ⟨s2, _⟩ => s2.vtup hS) ?_ ?_
    · rintro j x H2 hx ⟨s2, h2, h2D⟩
      obtain ⟨y, hy, rfl⟩ : ∃ y, ns[j]? = some y ∧ V.int y = x := by
        rw [List.getElem?_map] at hx
        cases e : ns[j]? with
        | none => rw [e] at hx; cases hx
        | some t => rw [e] at hx; exact ⟨t, rfl, Option.some.inj hx⟩
      have hyb := hin y (List.mem_of_getElem? hy)
      walk_at "vc"
      refine ⟨rfl, ?_⟩
      walk_at "vc"
      refine v_dec (fun hle => ?_) (fun hle => ?_)
      · have ha := tabL_at (ns := ns) (m := m) (n := i + 1) (t := 1 + (i : Int) - y) (by omega) (by omega)
        walk_at "vc"
        refine ⟨_, h2D, ?_, s2.fresh fD, (by rw [upd_ne nD.symm]; exact h2), ?_⟩
        · rw [List.length_map, List.length_map, sizeLine_eq]
          have := List.length_filter_le (fun s => decide (s ≤ 1 + (i : Int))) (ns.take j)
          have := List.length_take_le j ns
          have := hz.1
          have := List.length_take (i := j) (l := ns)
          omega
        · rw [upd_same, take_snoc hy, List.filter_append, List.map_append, List.map_append, List.filter_cons_of_pos (by simpa using hle)]
          rfl
      · refine ⟨s2, h2, ?_⟩
        rw [take_snoc hy, List.filter_append, List.filter_cons_of_neg (by simpa using hle), List.filter_nil, List.append_nil]
        exact h2D
    · rintro H2 ⟨s2, h2, h2D⟩
      rw [List.length_map, List.take_length] at h2D
      walk_at "vc"
      refine loop_list (K := K) (xs := (((ns.filter fun s => decide (s ≤ 1 + (i : Int))).map fun s => leastB ns m (1 + (i : Int) - s)).map V.int)) (fun j σ H' => ∃ u7 : Option V, σ = [some (.ref a), some (.int m), some (.int top), some (.ref l), some (.int (1 + (i : Int))), some (.ref D),
          some (.int ((((ns.filter fun s => decide (s ≤ 1 + (i : Int))).map fun s => leastB ns m (1 + (i : Int) - s)).take j).foldl minF ((m : Int) + 1))), u7, none, none] ∧ H' = H2)
        ⟨u7, rfl, rfl⟩ (fun j σ H' _ ⟨_, _, e⟩ => by rw [e]; exact SqL.of h2D) ?_ ?_
      · rintro j x σ H3 hx ⟨u7, rfl, rfl⟩
        obtain ⟨y, hy, rfl⟩ : ∃ y, ((ns.filter fun s => decide (s ≤ 1 + (i : Int))).map fun s => leastB ns m (1 + (i : Int) - s))[j]? = some y ∧ V.int y = x := by
          rw [List.getElem?_map] at hx
          cases e : ((ns.filter fun s => decide (s ≤ 1 + (i : Int))).map fun s => leastB ns m (1 + (i : Int) - s))[j]? with
          | none => rw [e] at hx; cases hx
          | some t => rw [e] at hx; exact ⟨t, rfl, Option.some.inj hx⟩
        walk_at "vc"
        refine ⟨some (.int y), ?_, rfl⟩
        rw [take_snoc hy, List.foldl_append]
        rfl
      · rintro σ H3 ⟨u7, rfl, rfl⟩
        rw [List.length_map, List.take_length]
        rw [← least_rec (fun s hs => (hin s hs).1) (by omega : 1 ≤ 1 + (i : Int))]
        have hsz : ((tabL ns m (i + 1)).map V.int).length < sizeLine := by rw [List.length_map, tabL_len, sizeLine_eq]; omega
        walk_at "vc"
        refine ⟨_, _, _, u7, rfl, s2.fresh hl, ?_⟩
        rw [upd_same, tabL_succ (n := i + 1), List.map_append, show 1 + (i : Int) = ((i + 1 : Nat) : Int) by omega]
        rfl
  · rintro σ H1 ⟨u4, u5, u6, u7, rfl, s1, h1⟩
    walk_at "vc"
    refine fun d hd => ?_
    have fd : H d = none := s1.free hd
    have nd : d ≠ l := (ne_of_none h1 hd).symm
    walk_at "vc"
    have e2 : ((top : Int) + 1).toNat = top + 1 := by omega
    rw [e2]
    refine loop_range (fun i σ H' => ∃ (kvs : List (Key × V)) (u4 : Option V), σ = [some (.ref a), some (.int m), some (.int top), some (.ref l), u4, u5, u6, u7, some (.ref d), none] ∧ Same H H' ∧ H' l = some (.lst ((tabL ns m (top + 1)).map V.int)) ∧
        H' d = some (.dK kvs) ∧ DictIs kvs (fun t => if 0 ≤ t ∧ t < (i : Int) then fewB ns m t else none))
      ⟨[], u4, rfl, s1.fresh fd, (by rw [upd_ne nd.symm]; exact h1), upd_same, ⟨fun t => ?_, fun p hp => (by cases hp), List.nodup_nil⟩⟩ ?_ ?_
    · rw [if_neg (by omega)]
      rfl
    · rintro i σ H2 hi ⟨kvs, u4, rfl, s2, h2, h2d, D2⟩
      have ha := tabL_at (ns := ns) (m := m) (n := top + 1) (t := 0 + (i : Int)) (by omega) (by omega)
      have hsz : kvs.length < sizeLine := by
        have := D2.bound (n := i) fun t k h => by
          by_cases c : 0 ≤ t ∧ t < (i : Int)
          · exact c
          · rw [if_neg c] at h
            cases h
        rw [sizeLine_eq]
        omega
      walk_at "vc"
      refine v_dec (fun hle => ?_) (fun hle => ?_)
      · obtain ⟨k, hk⟩ : ∃ k, fewB ns m (0 + (i : Int)) = some k := by
          cases e : fewB ns m (0 + (i : Int)) with
          | none => rw [least_none e] at hle; omega
          | some k => exact ⟨k, rfl⟩
        rw [least_some hk] at ha
        walk_at "vc"
        refine ⟨_, _, rfl, s2.fresh fd, (by rw [upd_ne nd.symm]; exact h2), upd_same, ?_⟩
        refine (D2.put (k := k) (t := 0 + (i : Int)) (by rw [if_neg (by omega)])).of_eq fun t => ?_
        by_cases e : t = 0 + (i : Int)
        · rw [if_pos e, e, if_pos (by omega), hk]
        · rw [if_neg e]
          by_cases c : 0 ≤ t ∧ t < (i : Int)
          · rw [if_pos c, if_pos (by omega)]
          · rw [if_neg c, if_neg (by omega)]
      · walk_at "vc"
        refine ⟨kvs, _, rfl, s2, h2, h2d, D2.of_eq fun t => ?_⟩
        by_cases c : 0 ≤ t ∧ t < (i : Int)
        · rw [if_pos c, if_pos (by omega)]
        · rw [if_neg c]
          by_cases e : t = 0 + (i : Int)
          · have hno : fewB ns m (0 + (i : Int)) = none := by
              cases q : fewB ns m (0 + (i : Int)) with
              | none => rfl
              | some k =>
                rw [least_some q] at hle
                have := (few_some q).1
                omega
            rw [e, hno]
            split <;> rfl
          · rw [if_neg (by omega)]
    · rintro σ H2 ⟨kvs, u4, rfl, s2, h2, h2d, D2⟩
      walk_at "vc"
      refine q d kvs H2 fd s2 h2d (D2.of_eq fun t => ?_)
      by_cases c : 0 ≤ t ∧ t < ((top + 1 : Nat) : Int)
      · rw [if_pos c]
      · rw [if_neg c]
        cases e : fewB ns m t with
        | none => rfl
        | some k =>
          have := few_bound hin hM.1 e
          rw [etop] at this
          exact absurd ⟨this.1, by omega⟩ c
end
end RC
namespace RC
open PySem PySem.Spec PyProof.Rows L2
local macro_rules | `(tactic| walk_at "vside") => `(tactic| first | assumption | exact rfl | omega | exact Nat.le_of_ble_eq_true rfl | exact SqL.of (by assumption) | exact SqT.of (by assumption) | exact SqL.of upd_same | exact SqT.of upd_same | exact upd_same | exact Rd.of (by assumption) | exact Rd.of upd_same)
local macro_rules | `(tactic| walk_at "v1") => `(tactic| first
  | (with_reducible first
    | refine v_seq ?_ | refine v_asg ?_ | refine v_ret ?_ | refine v_retN ?_ | refine v_next ?_ | refine v_drop ?_ | refine v_if ?_ | refine v_test ?_ | refine v_tB ?_ | refine v_bl ?_ | refine v_not ?_ | refine v_and ?_ | refine v_or ?_
    | refine v_andV ?_ | refine v_orV ?_ | refine v_notV ?_ | refine v_ifE ?_ | refine v_C ?_ | refine v_op ?_ | refine v_un ?_ | refine v_CB ?_ | refine v_CKw ?_ | refine v_nil ?_ | refine v_cons ?_ | refine v_call ?_ | refine v_tup ?_ | refine v_lst ?_
    | refine v_revT ?_ | refine v_sl ?_ | refine v_noPart ?_ | refine v_part ?_ | refine v_partI ?_ | refine v_add ?_ | refine v_sub ?_ | refine v_lt ?_ | refine v_le ?_ | refine v_gt ?_ | refine v_ge ?_ | refine v_neg ?_ | refine v_abs ?_ | refine v_int ?_
    | refine v_min2 ?_ | refine v_max2 ?_ | refine v_gSub ?_ | refine v_BM ?_ | refine v_BM0 ?_ | refine v_dput ?_ | refine v_dget ?_ | refine v_dnotin ?_ | refine v_din ?_ | refine v_for ?_ | refine v_iRng1 ?_ | refine v_iRng2 ?_ | refine v_iList ?_ | refine v_iTup ?_ | refine v_lc ?_ | refine v_yes ?_ | refine v_tru ?_ | refine v_iteT ?_ | refine v_iteF ?_ | refine v_iteNT ?_ | refine v_iteNF ?_ | refine v_iKeys ?_)
  | ((with_reducible refine' v_var ?k1 ?_); (case k1 => exact rfl))
  | ((with_reducible refine' v_gName ?k1 ?_); (case k1 => (dsimp only [List.set, L2.wipe, List.map]; try exact rfl)))
  | ((with_reducible refine' v_mul ?k1 ?_); (case k1 => walk_at "vside"))
  | ((with_reducible refine' v_div ?k1 ?_); (case k1 => walk_at "vside"))
  | ((with_reducible refine' v_mod ?k1 ?_); (case k1 => walk_at "vside"))
  | ((with_reducible refine' v_eq ?k1 ?_); (case k1 => exact rfl))
  | ((with_reducible refine' v_ne ?k1 ?_); (case k1 => exact rfl))
  | ((with_reducible refine' v_isi ?k1 ?k2 ?_); (case k1 => first | exact .base (.int _) | exact .base (.bl _) | exact .base (.str _) | exact .base .non | exact .base (.lst (by assumption)) | exact .base (.tup (by assumption)) | exact .base (.dK (by assumption))); (case k2 => first | exact kit_int_int | exact kit_int_bool | exact kit_int_str | exact kit_int_tuple | exact kit_int_list | exact kit_int_dict | exact kit_bool_int | exact kit_bool_bool | exact kit_bool_str | exact kit_bool_tuple | exact kit_bool_list | exact kit_bool_dict | exact kit_str_int | exact kit_str_bool | exact kit_str_str | exact kit_str_tuple | exact kit_str_list | exact kit_str_dict | exact kit_tuple_int | exact kit_tuple_bool | exact kit_tuple_str | exact kit_tuple_tuple | exact kit_tuple_list | exact kit_tuple_dict | exact kit_list_int | exact kit_list_bool | exact kit_list_str | exact kit_list_tuple | exact kit_list_list | exact kit_list_dict | exact kit_dict_int | exact kit_dict_bool | exact kit_dict_str | exact kit_dict_tuple | exact kit_dict_list | exact kit_dict_dict | exact kit_NoneType_int | exact kit_NoneType_bool | exact kit_NoneType_str | exact kit_NoneType_tuple | exact kit_NoneType_list | exact kit_NoneType_dict))
  | ((with_reducible refine' v_truL ?k1 ?_); (case k1 => walk_at "vside"))
  | ((with_reducible refine' v_truT ?k1 ?_); (case k1 => walk_at "vside"))
  | ((with_reducible refine' v_maxD ?k1 ?_); (case k1 => walk_at "vside"))
  | ((with_reducible refine' v_minD ?k1 ?_); (case k1 => walk_at "vside"))
  | ((with_reducible refine' v_lenL ?k1 ?_); (case k1 => walk_at "vside"))
  | ((with_reducible refine' v_lenT ?k1 ?_); (case k1 => walk_at "vside"))
  | ((with_reducible refine' v_lenD ?k1 ?_); (case k1 => walk_at "vside"))
  | ((with_reducible refine' v_ixL ?k1 ?k2 ?_); (case k1 => walk_at "vside"); (case k2 => walk_at "vside"))
  | ((with_reducible refine' v_ixT ?k1 ?k2 ?_); (case k1 => walk_at "vside"); (case k2 => walk_at "vside"))
  | ((with_reducible refine' v_setL ?k1 ?k2 ?_); (case k1 => walk_at "vside"); (case k2 => walk_at "vside"))
  | ((with_reducible refine' v_isL ?k1 ?_); (case k1 => walk_at "vside"))
  | ((with_reducible refine' v_append ?k1 ?k2 ?_); (case k1 => walk_at "vside"); (case k2 => walk_at "vside"))
  | ((with_reducible refine' v_dputI ?k1 ?k2 ?_); (case k1 => walk_at "vside"); (case k2 => walk_at "vside"))
  | ((with_reducible refine' v_dgetI ?k1 ?k2 ?_); (case k1 => walk_at "vside"); (case k2 => walk_at "vside"))
  | ((with_reducible refine' v_dhasI ?k1 ?_); (case k1 => walk_at "vside"))
  | ((with_reducible refine' v_isqL ?k1 ?_); (case k1 => walk_at "vside"))
  | ((with_reducible refine' v_isqT ?k1 ?_); (case k1 => walk_at "vside"))
  | ((with_reducible refine' v_rng1 ?k1 ?_); (case k1 => walk_at "vside"))
  | ((with_reducible refine' v_rng2 ?k1 ?_); (case k1 => walk_at "vside")))
local macro_rules | `(tactic| walk_at "vc") => `(tactic| repeat walk_at "v1")
local macro_rules | `(tactic| walk_at "vlen") => `(tactic| (intro vs H Q E h; (repeat' (obtain ⟨_, h⟩ := h)); first | (subst_vars; rfl) | (simp_all)))
section
variable {P : Program} {w : World} {K : PySem.W.Frag} {mg : Str → Option Value} {base : Heap}
def spLawRight (K : PySem.W.Frag) : Sp := fun vs H Q _ => ∃ (a b : Addr) (k1 k2 : List (Key × V)) (f : Int → Option Nat), vs = [.ref a, .ref b] ∧ H a = some (.dK k1) ∧ H b = some (.dK k2) ∧ a ≠ b ∧ DictIs k1 f ∧ DictIs k2 f ∧ Q (.bl true) H
abbrev sLawRight : Stmt := top 9
theorem sc__law_right : FnScope ["told", "due", "total"] ["told", "due"] (defScope sLawRight) := ⟨rfl, rfl, rfl, by decide +kernel, rfl, by decide +kernel, by decide +kernel⟩
theorem ok__law_right (T : Tx K mg) : Cal P w K mg base "_law_right" 2 ["told", "due"] (spLawRight K) := by
  have sc := sc__law_right
  refine Cal.of T.d__law_right sc (fun _ _ _ _ _ _ us hl => match us, hl with | [_, _], _ => rfl) (by walk_at "vlen") (fun f cdv A outer s H vs Q E hr h => ?_)
  obtain ⟨a, b, k1, k2, f0, rfl, h1, h2, nab, D1, D2, q⟩ := h
  refine ⟨_, (pss_cons
    (ps_if (PW.pt (pw_or (pt_not (pt_val (pe_callB (k_isi (K := K) rfl) rfl T.f_isinstance boot_isinstance (pa_cons (pv 0) (pa_cons (pe_bltn (v := .ty "dict") (u := .type "dict") rfl T.f_dict (by decide +kernel) rfl) pa_nil))))) (pw_or1 (pt_cmpR op_ne (pe_callB w_lenD rfl T.f_len PySem.boot_len (pa_cons (pv 0) pa_nil)) (pe_callB w_lenD rfl T.f_len PySem.boot_len (pa_cons (pv 1) pa_nil)) (nomark _))))) (pss_one
      (ps_ret pe_bl)) pss_nil)
    (pss_cons
    (ps_lock (ps_for (passes_of rfl) rfl (pi_keys (pv 0)) (pg_name (i := 2) sc.nd rfl (Or.inl rfl)) (pss_cons
      (ps_if (PW.pt (pw_or (pt_not (pt_val (pe_cal (ok__law_is_integer T) hr passL (pa_cons (pv 2) pa_nil)))) (pw_or1 (pt_cmp (pc_dnotin (hu_of hr) (pv 2) (pv 1)))))) (pss_one
        (ps_ret pe_bl)) pss_nil)
      (pss_one
      (ps_if (PW.pt (pw_or (pt_not (pt_val (pe_cal (ok__law_is_integer T) hr passL (pa_cons (pe_dget (hu_of hr) (pv 0) (pv 2) (fun _ _ => rfl)) pa_nil)))) (pw_or1 (pt_cmpR op_ne (pe_dget (hu_of hr) (pv 0) (pv 2) (fun _ _ => rfl)) (pe_dget (hu_of hr) (pv 1) (pv 2) (fun _ _ => rfl)) (nomark _))))) (pss_one
        (ps_ret pe_bl)) pss_nil)))))
    (pss_one
    (ps_ret pe_bl)))), ?_⟩
  have s0 : ∀ v0 v1 : V, start ["told", "due", "total"] [v0, v1] = [some v0, some v1, none] := fun _ _ => rfl
  rw [s0]
  walk_at "vc"
  have hl : k1.length = k2.length := D1.same D2
  refine v_decIN (fun h => absurd (by rw [hl]) h) (fun _ => ?_)
  walk_at "vc"
  refine ⟨a, _, h1, trivial, fun od => ?_⟩
  walk_at "vc"
  refine ⟨a, od, rfl, .inl ⟨k1, upd_same, ?_⟩⟩
  refine loop_it walk_keys (fun i σ H' => ∃ u : Option V, σ = [some (.ref a), some (.ref b), u] ∧ H' = upd H a (.frz od (.dK k1))) ⟨none, rfl, rfl⟩ (fun i σ H' _ ⟨_, _, e⟩ => by rw [e]; exact upd_same) ?_ ?_
  · rintro i x σ H1 H2 hi ⟨u, rfl, rfl⟩ ⟨rfl, k, v, hk, rfl⟩
    have hm := List.mem_of_getElem? hk
    obtain ⟨t, et⟩ := D1.kint _ hm
    simp only at et
    subst et
    have hv : (valV k1 (Sum.inl t : Key)).isSome = true := mem_keys.mp (List.mem_map_of_mem (f := (·.1)) hm)
    obtain ⟨n, hn⟩ : ∃ n, f0 t = some n := by
      rw [D1.val t] at hv
      cases e : f0 t with
      | none => rw [e] at hv; cases hv
      | some n => exact ⟨n, rfl⟩
    have v1 : valV k1 (Sum.inl t : Key) = some (V.int n) := by rw [D1.val t, hn]; rfl
    have v2 : valV k2 (Sum.inl t : Key) = some (V.int n) := by rw [D2.val t, hn]; rfl
    have r1 : Rd (upd H a (.frz od (.dK k1))) a (.dK k1) := .inr ⟨od, upd_same⟩
    have r2 : Rd (upd H a (.frz od (.dK k1))) b (.dK k2) := .inl (by rw [upd_ne nab.symm]; exact h2)
    show gName 2 (V.int t) _ _ _
    walk_at "vc"
    refine ⟨t, rfl, ?_⟩
    walk_at "vc"
    rw [v2]
    refine v_iteF ?_
    walk_at "vc"
    refine ⟨_, rfl, ?_⟩
    walk_at "vc"
    refine v_decIN (fun h => absurd rfl h) (fun _ => ?_)
    walk_at "vc"
    exact ⟨_, rfl, rfl⟩
  · rintro σ H1 ⟨u, rfl, rfl⟩
    refine ⟨upd_same, ?_⟩
    rw [upd_back h1]
    walk_at "vc"
    exact q
end
end RC
namespace RC
open PySem PySem.Spec PyProof.Rows L2
local macro_rules | `(tactic| walk_at "vside") => `(tactic| first | assumption | exact rfl | omega | exact Nat.le_of_ble_eq_true rfl | exact SqL.of (by assumption) | exact SqT.of (by assumption) | exact SqL.of upd_same | exact SqT.of upd_same | exact upd_same | exact Rd.of (by assumption) | exact Rd.of upd_same)
local macro_rules | `(tactic| walk_at "v1") => `(tactic| first
  | (with_reducible first
    | refine v_seq ?_ | refine v_asg ?_ | refine v_ret ?_ | refine v_retN ?_ | refine v_next ?_ | refine v_drop ?_ | refine v_if ?_ | refine v_test ?_ | refine v_tB ?_ | refine v_bl ?_ | refine v_not ?_ | refine v_and ?_ | refine v_or ?_
    | refine v_andV ?_ | refine v_orV ?_ | refine v_notV ?_ | refine v_ifE ?_ | refine v_C ?_ | refine v_op ?_ | refine v_un ?_ | refine v_CB ?_ | refine v_CKw ?_ | refine v_nil ?_ | refine v_cons ?_ | refine v_call ?_ | refine v_tup ?_ | refine v_lst ?_
    | refine v_revT ?_ | refine v_sl ?_ | refine v_noPart ?_ | refine v_part ?_ | refine v_partI ?_ | refine v_add ?_ | refine v_sub ?_ | refine v_lt ?_ | refine v_le ?_ | refine v_gt ?_ | refine v_ge ?_ | refine v_neg ?_ | refine v_abs ?_ | refine v_int ?_
    | refine v_min2 ?_ | refine v_max2 ?_ | refine v_gSub ?_ | refine v_BM ?_ | refine v_BM0 ?_ | refine v_dput ?_ | refine v_dget ?_ | refine v_dnotin ?_ | refine v_din ?_ | refine v_for ?_ | refine v_iRng1 ?_ | refine v_iRng2 ?_ | refine v_iList ?_ | refine v_iTup ?_ | refine v_lc ?_ | refine v_yes ?_ | refine v_tru ?_ | refine v_iteT ?_ | refine v_iteF ?_ | refine v_iteNT ?_ | refine v_iteNF ?_ | refine v_iKeys ?_)
  | ((with_reducible refine' v_var ?k1 ?_); (case k1 => exact rfl))
  | ((with_reducible refine' v_gName ?k1 ?_); (case k1 => (dsimp only [List.set, L2.wipe, List.map]; try exact rfl)))
  | ((with_reducible refine' v_mul ?k1 ?_); (case k1 => walk_at "vside"))
  | ((with_reducible refine' v_div ?k1 ?_); (case k1 => walk_at "vside"))
  | ((with_reducible refine' v_mod ?k1 ?_); (case k1 => walk_at "vside"))
  | ((with_reducible refine' v_eq ?k1 ?_); (case k1 => exact rfl))
  | ((with_reducible refine' v_ne ?k1 ?_); (case k1 => exact rfl))
  | ((with_reducible refine' v_isi ?k1 ?k2 ?_); (case k1 => first | exact .base (.int _) | exact .base (.bl _) | exact .base (.str _) | exact .base .non | exact .base (.lst (by assumption)) | exact .base (.tup (by assumption)) | exact .base (.dK (by assumption))); (case k2 => first | exact kit_int_int | exact kit_int_bool | exact kit_int_str | exact kit_int_tuple | exact kit_int_list | exact kit_int_dict | exact kit_bool_int | exact kit_bool_bool | exact kit_bool_str | exact kit_bool_tuple | exact kit_bool_list | exact kit_bool_dict | exact kit_str_int | exact kit_str_bool | exact kit_str_str | exact kit_str_tuple | exact kit_str_list | exact kit_str_dict | exact kit_tuple_int | exact kit_tuple_bool | exact kit_tuple_str | exact kit_tuple_tuple | exact kit_tuple_list | exact kit_tuple_dict | exact kit_list_int | exact kit_list_bool | exact kit_list_str | exact kit_list_tuple | exact kit_list_list | exact kit_list_dict | exact kit_dict_int | exact kit_dict_bool | exact kit_dict_str | exact kit_dict_tuple | exact kit_dict_list | exact kit_dict_dict | exact kit_NoneType_int | exact kit_NoneType_bool | exact kit_NoneType_str | exact kit_NoneType_tuple | exact kit_NoneType_list | exact kit_NoneType_dict))
  | ((with_reducible refine' v_truL ?k1 ?_); (case k1 => walk_at "vside"))
  | ((with_reducible refine' v_truT ?k1 ?_); (case k1 => walk_at "vside"))
  | ((with_reducible refine' v_maxD ?k1 ?_); (case k1 => walk_at "vside"))
  | ((with_reducible refine' v_minD ?k1 ?_); (case k1 => walk_at "vside"))
  | ((with_reducible refine' v_lenL ?k1 ?_); (case k1 => walk_at "vside"))
  | ((with_reducible refine' v_lenT ?k1 ?_); (case k1 => walk_at "vside"))
  | ((with_reducible refine' v_lenD ?k1 ?_); (case k1 => walk_at "vside"))
  | ((with_reducible refine' v_ixL ?k1 ?k2 ?_); (case k1 => walk_at "vside"); (case k2 => walk_at "vside"))
  | ((with_reducible refine' v_ixT ?k1 ?k2 ?_); (case k1 => walk_at "vside"); (case k2 => walk_at "vside"))
  | ((with_reducible refine' v_setL ?k1 ?k2 ?_); (case k1 => walk_at "vside"); (case k2 => walk_at "vside"))
  | ((with_reducible refine' v_isL ?k1 ?_); (case k1 => walk_at "vside"))
  | ((with_reducible refine' v_append ?k1 ?k2 ?_); (case k1 => walk_at "vside"); (case k2 => walk_at "vside"))
  | ((with_reducible refine' v_dputI ?k1 ?k2 ?_); (case k1 => walk_at "vside"); (case k2 => walk_at "vside"))
  | ((with_reducible refine' v_dgetI ?k1 ?k2 ?_); (case k1 => walk_at "vside"); (case k2 => walk_at "vside"))
  | ((with_reducible refine' v_dhasI ?k1 ?_); (case k1 => walk_at "vside"))
  | ((with_reducible refine' v_isqL ?k1 ?_); (case k1 => walk_at "vside"))
  | ((with_reducible refine' v_isqT ?k1 ?_); (case k1 => walk_at "vside"))
  | ((with_reducible refine' v_rng1 ?k1 ?_); (case k1 => walk_at "vside"))
  | ((with_reducible refine' v_rng2 ?k1 ?_); (case k1 => walk_at "vside")))
local macro_rules | `(tactic| walk_at "vc") => `(tactic| repeat walk_at "v1")
local macro_rules | `(tactic| walk_at "vlen") => `(tactic| (intro vs H Q E h; (repeat' (obtain ⟨_, h⟩ := h)); first | (subst_vars; rfl) | (simp_all)))
section
variable {P : Program} {w : World} {K : PySem.W.Frag} {mg : Str → Option Value} {base : Heap}
theorem But.at {p b : Addr} {H H' : Hp} {o : HO} (x : But p H H') (h : PoolAt H p) (e : H b = some o) (n : ∀ xs, o ≠ .lst xs) : H' b = some o :=
  x b o (fun z => by
    obtain ⟨i, j, k, h⟩ := h
    rw [z, h] at e
    exact n _ (Option.some.inj e).symm) e
theorem PoolAt.same {p : Addr} {H H' : Hp} (s : Same H H') (h : PoolAt H p) : PoolAt H' p := by
  obtain ⟨i, j, k, h⟩ := h
  exact ⟨i, j, k, s _ _ h⟩
theorem PoolAt.ned {p b : Addr} {H : Hp} {o : HO} (h : PoolAt H p) (e : H b = some o) (n : ∀ xs, o ≠ .lst xs) : b ≠ p := fun z => by
  obtain ⟨i, j, k, h⟩ := h
  rw [z, h] at e
  exact n _ (Option.some.inj e).symm
theorem putK_size {κ : Type} [DecidableEq κ] (c : List (κ × V)) (k : κ) (x : V) : (putK c k x).length ≤ c.length + 1 := by
  unfold putK
  split
  · rw [List.length_map]
    omega
  · rw [List.length_append]
    exact Nat.le_refl _
theorem sizes_div {ns : List Int} (hz : Sizes ns) : 1 ≤ maxI 1 ns ∧ maxI 1 ns ≤ 600 := by
  obtain ⟨g1, g2⟩ := maxI_spec 1 ns
  rcases g2 with g | ⟨_, g⟩
  · exact hz.2 _ g
  · omega
def spLaw (K : PySem.W.Frag) : Sp := fun vs H Q _ => ∃ (a : Addr) (ns : List Int), vs = [.ref a] ∧ SqL K H a (ns.map V.int) ∧ ∀ H', Q (.bl true) H'
abbrev sLaw : Stmt := top 10
theorem sc_law : FnScope ["script", "pool", "sizes", "most", "due", "told", "back", "again"] ["script"] (defScope sLaw) := ⟨rfl, rfl, rfl, by decide +kernel, rfl, by decide +kernel, by decide +kernel⟩
theorem ok_law (T : Tx K mg) {f : Addr} {fd : FuncData} (F : FunD K "law" "law" (defArgs sLaw) (defBody sLaw) (defScope sLaw) [] [] f fd) : FnOk P w K mg base L2.CX0 3 f fd ["script"] (spLaw K) := by
  have sc := sc_law
  refine F.ok (CX := L2.CX0) sc (by walk_at "vlen") (fun cdv A outer s H vs Q E hr h => ?_)
  obtain ⟨a, sc0, rfl, hS, q⟩ := h
  refine ⟨_, (pss_cons
    (ps_set (i := 1) sc.nd rfl (Or.inl rfl) (pe_cal (ok__law_pool T) hr passL (pa_cons (pv 0) (pa_cons pe_int pa_nil))))
    (pss_cons
    (ps_set (i := 2) sc.nd rfl (Or.inl rfl) (pe_cal (ok__law_lengths T) hr passL (pa_cons (pv 1) pa_nil)))
    (pss_cons
    (ps_set (i := 3) sc.nd rfl (Or.inl rfl) (pe_ix (k_ixL (K := K) rfl) (pe_lst (pa_cons pe_int (pa_cons pe_int (pa_cons pe_int (pa_cons pe_int (pa_cons pe_int (pa_cons pe_int (pa_cons pe_int (pa_cons pe_int (pa_cons pe_int (pa_cons (pe_cal (ok__law_draw T) hr passL (pa_cons (pv 1) (pa_cons pe_int pa_nil))) pa_nil))))))))))) (pe_cal (ok__law_draw T) hr passL (pa_cons (pv 1) (pa_cons pe_int pa_nil))) (fun _ _ => rfl)))
    (pss_join
    (ps_if (pt_cmpR w_gt (pe_cal (ok__law_draw T) hr passL (pa_cons (pv 1) (pa_cons pe_int pa_nil))) pe_int (nomark _)) (pss_one
      (ps_set (i := 3) sc.nd rfl (Or.inl rfl) (pe_callB (w_min2 rfl) rfl T.f_min (by decide +kernel) (pa_cons (pv 3) (pa_cons (pe_op w_fdiv pe_int (pe_callBK (k_maxD (K := K) rfl rfl (hu_of hr)) rfl T.f_max (by decide +kernel) (pa_cons (pv 2) pa_nil) (pk_cons pe_int pk_nil))) pa_nil))))) pss_nil)
    (pss_cons
    (ps_set (i := 4) sc.nd rfl (Or.inl rfl) (pe_cal (ok__law_due T) hr passL (pa_cons (pv 2) (pa_cons (pv 3) pa_nil))))
    (pss_cons
    (ps_set (i := 5) sc.nd rfl (Or.inl rfl) (pe_cal (ok_fewest_sums T) hr passL (pa_cons (pv 2) (pa_cons (pv 3) pa_nil))))
    (pss_cons
    (ps_if (pt_not (pt_val (pe_cal (ok__law_right T) hr passL (pa_cons (pv 5) (pa_cons (pv 4) pa_nil))))) (pss_one
      (ps_ret pe_bl)) pss_nil)
    (pss_cons
    (ps_dput (hu_of hr) (pv 5) pe_int (pe_op w_add pe_int (pe_cal (ok__law_draw T) hr passL (pa_cons (pv 1) (pa_cons pe_int pa_nil)))) rfl)
    (pss_cons
    (ps_dput (hu_of hr) (pv 5) (pe_un w_neg pe_int) pe_int rfl)
    (pss_cons
    (ps_set (i := 6) sc.nd rfl (Or.inl rfl) (k_revT (K := K) rfl (pv 2)))
    (pss_join
    (ps_if (pt_cmpR w_lt (pe_callB (k_len (K := K) rfl) rfl T.f_len PySem.boot_len (pa_cons (pv 6) pa_nil)) pe_int (nomark _)) (pss_one
      (ps_set (i := 6) sc.nd rfl (Or.inl rfl) (pe_op (k_catT (K := K) rfl) (pv 6) (pe_slice (k_slT (K := K) rfl) (pv 2) po_none (po_some pe_int))))) pss_nil)
    (pss_cons
    (ps_set (i := 7) sc.nd rfl (Or.inl rfl) (pe_cal (ok_fewest_sums T) hr passL (pa_cons (pv 6) (pa_cons (pv 3) pa_nil))))
    (pss_cons
    (ps_if (pt_not (pt_val (pe_cal (ok__law_right T) hr passL (pa_cons (pv 7) (pa_cons (pv 4) pa_nil))))) (pss_one
      (ps_ret pe_bl)) pss_nil)
    (pss_cons
    (ps_if (PW.pt (pw_and (pt_cmpR w_gt (pv 3) pe_int (nomark _)) (pw_and1 (pt_not (pt_val (pe_cal (ok__law_right T) hr passL (pa_cons (pe_cal (ok_fewest_sums T) hr passL (pa_cons (pv 2) (pa_cons (pe_op w_sub (pv 3) pe_int) pa_nil))) (pa_cons (pe_cal (ok__law_due T) hr passL (pa_cons (pv 2) (pa_cons (pe_op w_sub (pv 3) pe_int) pa_nil))) pa_nil)))))))) (pss_one
      (ps_ret pe_bl)) pss_nil)
    (pss_cons
    (ps_dput (hu_of hr) (pv 7) pe_int pe_int rfl)
    (pss_one
    (ps_ret (pe_cal (ok__law_right T) hr passL (pa_cons (pe_cal (ok_fewest_sums T) hr passL (pa_cons (pv 2) (pa_cons (pv 3) pa_nil))) (pa_cons (pv 4) pa_nil)))))))))))))))))))), ?_⟩
  have s0 : ∀ v0 : V, start ["script", "pool", "sizes", "most", "due", "told", "back", "again"] [v0] = [some v0, none, none, none, none, none, none, none] := fun _ => rfl
  rw [s0]
  walk_at "vc"
  refine ⟨a, sc0, 0, rfl, hS, by omega, by omega, fun p H1 fp s1 p1 => ?_⟩
  walk_at "vc"
  refine ⟨p, rfl, p1, fun t ns H2 hz b2 p2 t2 => ?_⟩
  walk_at "vc"
  refine v_draw p2 (by omega) fun d61 H3 a0 a1 b3 p3 => ?_
  have t3 := b3.at p2 t2 (fun _ e => by cases e)
  walk_at "vc"
  refine ⟨Nat.le_of_ble_eq_true rfl, fun l hl => ?_⟩
  have nl := p3.ne hl
  walk_at "vc"
  refine v_draw (p3.set nl) (by omega) fun d10 H4 c0 c1 b4 p4 => ?_
  have h4l : H4 l = some (.lst (([1, 2, 3, 2, 5, 8, 12, 0, 60, d61] : List Int).map V.int)) := b4 l _ nl upd_same
  have t4 : H4 t = some (.tup (ns.map V.int)) := b4.at (p3.set nl) (by rw [upd_ne (ne_of_none t3 hl)]; exact t3) (fun _ e => by cases e)
  obtain ⟨m0, hm0, hm1⟩ := at_some (ns := [1, 2, 3, 2, 5, 8, 12, 0, 60, d61]) c0 c1
  have hm2 : 0 ≤ m0 ∧ m0 ≤ 60 := by
    simp only [List.mem_cons, List.not_mem_nil, or_false] at hm1
    omega
  obtain ⟨g0, g1⟩ := sizes_div hz
  walk_at "vc"
  refine v_join (fun σ' H' => ∃ m : Nat, σ' = [some (.ref a), some (.ref p), some (.ref t), some (.int m), none, none, none, none] ∧ m ≤ 60 ∧ PoolAt H' p ∧ H' t = some (.tup (ns.map V.int))) ?_ ?_
  · walk_at "vc"
    refine v_draw p4 (by omega) fun d16 H5 e0 e1 b5 p5 => ?_
    have t5 := b5.at p4 t4 (fun _ e => by cases e)
    walk_at "vc"
    refine v_dec (fun _ => ?_) (fun _ => ?_)
    · walk_at "vc"
      have hq : 0 ≤ 6000 / maxI 1 ns := Int.ediv_nonneg (by omega) (by omega)
      refine ⟨(if 6000 / maxI 1 ns < m0 then 6000 / maxI 1 ns else m0).toNat, ?_, ?_, p5, t5⟩
      · rw [Int.toNat_of_nonneg (by split <;> omega)]
      · split <;> omega
    · walk_at "vc"
      exact ⟨m0.toNat, by rw [Int.toNat_of_nonneg hm2.1], by omega, p5, t5⟩
  rintro σ H5 ⟨m, rfl, hm, p5, t5⟩
  walk_at "vc"
  refine ⟨t, ns, m, rfl, SqT.of t5, hz, hm, fun d1 k1 H6 f6 s6 h6 D1 => ?_⟩
  have p6 := p5.same s6
  have t6 := s6 _ _ t5
  walk_at "vc"
  refine ⟨t, ns, m, rfl, SqT.of t6, hz, hm, fun d2 k2 H7 f7 s7 h7 D2 => ?_⟩
  have p7 := p6.same s7
  have t7 := s7 _ _ t6
  have h7' := s7 _ _ h6
  have n21 : d2 ≠ d1 := (ne_of_none h6 f7).symm
  walk_at "vc"
  refine ⟨d2, d1, k2, k1, _, rfl, h7, h7', n21, D2, D1, ?_⟩
  walk_at "vc"
  refine v_draw p7 (by omega) fun d9 H8 e0 e1 b8 p8 => ?_
  have t8 := b8.at p7 t7 (fun _ e => by cases e)
  have h8 := b8.at p7 h7 (fun _ e => by cases e)
  have h8' := b8.at p7 h7' (fun _ e => by cases e)
  have np2 : d2 ≠ p := p8.ned h8 (fun _ e => by cases e)
  have n2t : t ≠ d2 := ne_of t8 h8 (by intro e; cases e)
  have hb := D2.bound (n := 36001) fun t k h => by
    have := few_bound (M := 600) hz.2 (by omega) h
    omega
  have hsz : k2.length < sizeLine := by rw [sizeLine_eq]; omega
  have hsz2 : (putK k2 (Sum.inl 0) (.int (1 + d9))).length < sizeLine := by
    have := putK_size k2 (Sum.inl 0 : Key) (.int (1 + d9))
    rw [sizeLine_eq]
    omega
  walk_at "vc"
  rw [upd_upd]
  obtain ⟨H9, e9⟩ : ∃ H9, H9 = upd H8 d2 (.dK (putK (putK k2 (Sum.inl 0) (.int (1 + d9))) (Sum.inl (-1)) (.int 0))) := ⟨_, rfl⟩
  have p9 : PoolAt H9 p := by rw [e9]; exact p8.set np2
  have t9 : H9 t = some (.tup (ns.map V.int)) := by rw [e9, upd_ne n2t]; exact t8
  have h9 : H9 d1 = some (.dK k1) := by rw [e9, upd_ne n21.symm]; exact h8'
  rw [← e9]
  refine ⟨t, _, rfl, SqT.of t9, fun b0 fb0 => ?_⟩
  have sb0 : Same H9 (upd H9 b0 (.tup (ns.map V.int).reverse)) := (Same.refl H9).vnew fb0
  walk_at "vc"
  refine v_join (fun σ' H' => ∃ (b : Addr) (bs : List Int), σ' = [some (.ref a), some (.ref p), some (.ref t), some (.int m), some (.ref d1), some (.ref d2), some (.ref b), none] ∧ Same H9 H' ∧ H' b = some (.tup (bs.map V.int)) ∧ Sizes bs ∧ ∀ s, s ∈ bs ↔ s ∈ ns) ?_ ?_
  · have hb0 : (upd H9 b0 (.tup (ns.map V.int).reverse)) b0 = some (.tup (ns.reverse.map V.int)) := by rw [upd_same, List.map_reverse]
    walk_at "vc"
    refine v_dec (fun hlt => ?_) (fun _ => ?_)
    · rw [List.length_map, List.length_reverse] at hlt
      have hcut : cutV (ns.map V.int) none (some 1) = (ns.take 1).map V.int := by
        unfold cutV
        rw [HT.sIx_none, show (some (1 : Int)) = some ((1 : Nat) : Int) from rfl, HT.sIx_nat, List.drop_zero, ← List.map_take]
        congr 1
        rw [List.length_map]
        cases ns with
        | nil => rfl
        | cons x r => simp
      have ht0 := sb0 _ _ t9
      walk_at "vc"
      have fin : ∀ (c : Addr) (H' : Hp), Same H9 H' → H' b0 = some (.tup (ns.reverse.map V.int)) → H' c = some (.tup ((ns.take 1).map V.int)) → (ns.reverse ≠ [] → ns.take 1 ≠ []) →
          rCatA K (.ref b0) (.ref c) H' fun x H1 => gName 6 x [some (.ref a), some (.ref p), some (.ref t), some (.int m), some (.ref d1), some (.ref d2), some (.ref b0), none] H1
            (fun σ' H' => ∃ (b : Addr) (bs : List Int), σ' = [some (.ref a), some (.ref p), some (.ref t), some (.int m), some (.ref d1), some (.ref d2), some (.ref b), none] ∧ Same H9 H' ∧ H' b = some (.tup (bs.map V.int)) ∧ Sizes bs ∧ ∀ s, s ∈ bs ↔ s ∈ ns) := fun c H' s' hb hc hne => by
        have hz' : Sizes (ns.reverse ++ ns.take 1) := ⟨by rw [List.length_append, List.length_reverse, List.length_take]; omega, fun s hs => by
          rcases List.mem_append.mp hs with hs | hs
          · exact hz.2 s (List.mem_reverse.mp hs)
          · exact hz.2 s (List.mem_of_mem_take hs)⟩
        have hset : ∀ s, s ∈ ns.reverse ++ ns.take 1 ↔ s ∈ ns := fun s => by
          rw [List.mem_append, List.mem_reverse]
          exact ⟨fun h => h.elim id List.mem_of_mem_take, fun h => .inl h⟩
        refine ⟨b0, c, _, _, rfl, rfl, SqT.of hb, SqT.of hc, ?_, fun e => ?_, fun e e2 => ?_, fun e e2 p fp => ?_⟩
        · rw [List.length_map, List.length_map, List.length_reverse, List.length_take, sizeLine_eq]
          omega
        · have en : ns = [] := by simpa using e
          subst en
          walk_at "vc"
          exact ⟨c, [], rfl, s', hc, ⟨Nat.zero_le _, fun _ h => by cases h⟩, fun s => Iff.rfl⟩
        · exact absurd (List.map_eq_nil_iff.mp e2) (hne fun z => e (by rw [z]; rfl))
        · walk_at "vc"
          refine ⟨p, ns.reverse ++ ns.take 1, rfl, s'.vnew fp, ?_, hz', hset⟩
          rw [upd_same, List.map_append]
      refine ⟨t, _, rfl, SqT.of ht0, fun hw => ?_, fun hw c hc => ?_⟩
      · have en : ns.take 1 = ns := by
          have := hw.2
          rw [show (some (1 : Int)) = some ((1 : Nat) : Int) from rfl, HT.sIx_nat, List.length_map] at this
          exact List.take_of_length_le (by omega)
        exact fin t _ sb0 hb0 (by rw [en]; exact ht0) fun h => by rw [en]; exact fun z => h (by rw [z]; rfl)
      · have hcb : b0 ≠ c := ne_of_none upd_same hc
        refine fin c _ (sb0.vnew hc) (by rw [upd_ne hcb]; exact hb0) (by rw [upd_same, hcut]) fun h => ?_
        cases ns with
        | nil => exact absurd rfl h
        | cons x r => simp
    · walk_at "vc"
      exact ⟨b0, ns.reverse, rfl, sb0, hb0, ⟨by rw [List.length_reverse]; exact hz.1, fun s hs => hz.2 s (List.mem_reverse.mp hs)⟩, fun s => List.mem_reverse⟩
  rintro σ H10 ⟨b, bs, rfl, s10, h10b, hzb, hset⟩
  have t10 := s10 _ _ t9
  have h10 := s10 _ _ h9
  walk_at "vc"
  refine ⟨b, bs, m, rfl, SqT.of h10b, hzb, hm, fun d3 k3 H11 f11 s11 h11 D3 => ?_⟩
  have t11 := s11 _ _ t10
  have h11' := s11 _ _ h10
  have n31 : d3 ≠ d1 := (ne_of_none h10 f11).symm
  walk_at "vc"
  refine ⟨d3, d1, k3, k1, _, rfl, h11, h11', n31, D3.of_eq (few_set_eq hset m), D1, ?_⟩
  walk_at "vc"
  have last : ∀ H12 : Hp, H12 t = some (.tup (ns.map V.int)) → H12 d1 = some (.dK k1) → H12 d3 = some (.dK k3) →
      tSeq (sDPut (tVar 7) (tC (.int 0)) (tC (.int 2))) (tRet (tCall (spLawRight K) [] E0 (tCons (tCall (spFewestSums K) [] E0 (tCons (tVar 2) (tCons (tVar 3) tNil))) (tCons (tVar 4) tNil)))) { nx := fun _ H' => Q .non H', rt := Q }
        [some (.ref a), some (.ref p), some (.ref t), some (.int m), some (.ref d1), some (.ref d2), some (.ref b), some (.ref d3)] H12 := fun H12 t12 h12 h12' => by
    have hb := D3.bound (n := 36001) fun t k h => by
      have := few_bound (M := 600) hzb.2 (by omega) h
      omega
    have hsz : k3.length < sizeLine := by rw [sizeLine_eq]; omega
    walk_at "vc"
    have n3t : t ≠ d3 := ne_of t12 h12' (by intro e; cases e)
    refine ⟨t, ns, m, rfl, SqT.of (by rw [upd_ne n3t]; exact t12), hz, hm, fun d4 k4 H13 f13 s13 h13 D4 => ?_⟩
    have h13' : H13 d1 = some (.dK k1) := s13 _ _ (by rw [upd_ne n31.symm]; exact h12)
    have n41 : d4 ≠ d1 := fun z => by
      rw [z, upd_ne n31.symm, h12] at f13
      cases f13
    walk_at "vc"
    exact ⟨d4, d1, k4, k1, _, rfl, h13, h13', n41, D4, D1, q _⟩
  refine v_dec (fun hpos => ?_) (fun _ => ?_)
  · have em : (m : Int) - 1 = ((m - 1 : Nat) : Int) := by omega
    walk_at "vc"
    rw [em]
    refine ⟨t, ns, m - 1, rfl, SqT.of t11, hz, by omega, fun d4 k4 H12 f12 s12 h12 D4 => ?_⟩
    walk_at "vc"
    rw [em]
    refine ⟨t, ns, m - 1, rfl, SqT.of (s12 _ _ t11), hz, by omega, fun d5 k5 H13 f13 s13 h13 D5 => ?_⟩
    walk_at "vc"
    refine ⟨d4, d5, k4, k5, _, rfl, s13 _ _ h12, h13, ne_of_none h12 f13, D4, D5, ?_⟩
    repeat (first | exact last H13 (s13 _ _ (s12 _ _ t11)) (s13 _ _ (s12 _ _ h11')) (s13 _ _ (s12 _ _ h11)) | walk_at "v1")
  · repeat (first | exact last H11 t11 h11' h11 | walk_at "v1")
end
end RC
namespace RC
open PySem PySem.Spec PyProof.Rows L2
local macro_rules | `(tactic| walk_at "vside") => `(tactic| first | assumption | exact rfl | omega | exact Nat.le_of_ble_eq_true rfl | exact SqL.of (by assumption) | exact SqT.of (by assumption) | exact SqL.of upd_same | exact SqT.of upd_same | exact upd_same | exact Rd.of (by assumption) | exact Rd.of upd_same)
local macro_rules | `(tactic| walk_at "v1") => `(tactic| first
  | (with_reducible first
    | refine v_seq ?_ | refine v_asg ?_ | refine v_ret ?_ | refine v_retN ?_ | refine v_next ?_ | refine v_drop ?_ | refine v_if ?_ | refine v_test ?_ | refine v_tB ?_ | refine v_bl ?_ | refine v_not ?_ | refine v_and ?_ | refine v_or ?_
    | refine v_andV ?_ | refine v_orV ?_ | refine v_notV ?_ | refine v_ifE ?_ | refine v_C ?_ | refine v_op ?_ | refine v_un ?_ | refine v_CB ?_ | refine v_CKw ?_ | refine v_nil ?_ | refine v_cons ?_ | refine v_call ?_ | refine v_tup ?_ | refine v_lst ?_
    | refine v_revT ?_ | refine v_sl ?_ | refine v_noPart ?_ | refine v_part ?_ | refine v_partI ?_ | refine v_add ?_ | refine v_sub ?_ | refine v_lt ?_ | refine v_le ?_ | refine v_gt ?_ | refine v_ge ?_ | refine v_neg ?_ | refine v_abs ?_ | refine v_int ?_
    | refine v_min2 ?_ | refine v_max2 ?_ | refine v_gSub ?_ | refine v_BM ?_ | refine v_BM0 ?_ | refine v_dput ?_ | refine v_dget ?_ | refine v_dnotin ?_ | refine v_din ?_ | refine v_for ?_ | refine v_iRng1 ?_ | refine v_iRng2 ?_ | refine v_iList ?_ | refine v_iTup ?_ | refine v_lc ?_ | refine v_yes ?_ | refine v_tru ?_ | refine v_iteT ?_ | refine v_iteF ?_ | refine v_iteNT ?_ | refine v_iteNF ?_ | refine v_iKeys ?_)
  | ((with_reducible refine' v_var ?k1 ?_); (case k1 => exact rfl))
  | ((with_reducible refine' v_gName ?k1 ?_); (case k1 => (dsimp only [List.set, L2.wipe, List.map]; try exact rfl)))
  | ((with_reducible refine' v_mul ?k1 ?_); (case k1 => walk_at "vside"))
  | ((with_reducible refine' v_div ?k1 ?_); (case k1 => walk_at "vside"))
  | ((with_reducible refine' v_mod ?k1 ?_); (case k1 => walk_at "vside"))
  | ((with_reducible refine' v_eq ?k1 ?_); (case k1 => exact rfl))
  | ((with_reducible refine' v_ne ?k1 ?_); (case k1 => exact rfl))
  | ((with_reducible refine' v_isi ?k1 ?k2 ?_); (case k1 => first | exact .base (.int _) | exact .base (.bl _) | exact .base (.str _) | exact .base .non | exact .base (.lst (by assumption)) | exact .base (.tup (by assumption)) | exact .base (.dK (by assumption))); (case k2 => first | exact kit_int_int | exact kit_int_bool | exact kit_int_str | exact kit_int_tuple | exact kit_int_list | exact kit_int_dict | exact kit_bool_int | exact kit_bool_bool | exact kit_bool_str | exact kit_bool_tuple | exact kit_bool_list | exact kit_bool_dict | exact kit_str_int | exact kit_str_bool | exact kit_str_str | exact kit_str_tuple | exact kit_str_list | exact kit_str_dict | exact kit_tuple_int | exact kit_tuple_bool | exact kit_tuple_str | exact kit_tuple_tuple | exact kit_tuple_list | exact kit_tuple_dict | exact kit_list_int | exact kit_list_bool | exact kit_list_str | exact kit_list_tuple | exact kit_list_list | exact kit_list_dict | exact kit_dict_int | exact kit_dict_bool | exact kit_dict_str | exact kit_dict_tuple | exact kit_dict_list | exact kit_dict_dict | exact kit_NoneType_int | exact kit_NoneType_bool | exact kit_NoneType_str | exact kit_NoneType_tuple | exact kit_NoneType_list | exact kit_NoneType_dict))
  | ((with_reducible refine' v_truL ?k1 ?_); (case k1 => walk_at "vside"))
  | ((with_reducible refine' v_truT ?k1 ?_); (case k1 => walk_at "vside"))
  | ((with_reducible refine' v_maxD ?k1 ?_); (case k1 => walk_at "vside"))
  | ((with_reducible refine' v_minD ?k1 ?_); (case k1 => walk_at "vside"))
  | ((with_reducible refine' v_lenL ?k1 ?_); (case k1 => walk_at "vside"))
  | ((with_reducible refine' v_lenT ?k1 ?_); (case k1 => walk_at "vside"))
  | ((with_reducible refine' v_lenD ?k1 ?_); (case k1 => walk_at "vside"))
  | ((with_reducible refine' v_ixL ?k1 ?k2 ?_); (case k1 => walk_at "vside"); (case k2 => walk_at "vside"))
  | ((with_reducible refine' v_ixT ?k1 ?k2 ?_); (case k1 => walk_at "vside"); (case k2 => walk_at "vside"))
  | ((with_reducible refine' v_setL ?k1 ?k2 ?_); (case k1 => walk_at "vside"); (case k2 => walk_at "vside"))
  | ((with_reducible refine' v_isL ?k1 ?_); (case k1 => walk_at "vside"))
  | ((with_reducible refine' v_append ?k1 ?k2 ?_); (case k1 => walk_at "vside"); (case k2 => walk_at "vside"))
  | ((with_reducible refine' v_dputI ?k1 ?k2 ?_); (case k1 => walk_at "vside"); (case k2 => walk_at "vside"))
  | ((with_reducible refine' v_dgetI ?k1 ?k2 ?_); (case k1 => walk_at "vside"); (case k2 => walk_at "vside"))
  | ((with_reducible refine' v_dhasI ?k1 ?_); (case k1 => walk_at "vside"))
  | ((with_reducible refine' v_isqL ?k1 ?_); (case k1 => walk_at "vside"))
  | ((with_reducible refine' v_isqT ?k1 ?_); (case k1 => walk_at "vside"))
  | ((with_reducible refine' v_rng1 ?k1 ?_); (case k1 => walk_at "vside"))
  | ((with_reducible refine' v_rng2 ?k1 ?_); (case k1 => walk_at "vside")))
local macro_rules | `(tactic| walk_at "vc") => `(tactic| repeat walk_at "v1")
local macro_rules | `(tactic| walk_at "vlen") => `(tactic| (intro vs H Q E h; (repeat' (obtain ⟨_, h⟩ := h)); first | (subst_vars; rfl) | (simp_all)))
def dG (x : Str) (i : Nat) : He.DefD := ⟨(x, none), x, x, defArgs (top i), defBody (top i), defScope (top i), [], []⟩
def hFn : List He.DefD := ([dG "fewest_sums" 1, dG "_law_cell" 3, dG "_law_pool" 4, dG "_law_draw" 5, dG "_law_is_integer" 6, dG "_law_lengths" 7, dG "_law_due" 8, dG "_law_right" 9, dG "law" 10] : List He.DefD)
def hFa : List He.Fa := ([.glo "fewest_sums", .glo "_law_cell", .glo "_law_pool", .glo "_law_draw", .glo "_law_is_integer", .glo "_law_lengths", .glo "_law_due", .glo "_law_right", .glo "law", .free "len", .free "abs", .free "int", .free "range", .free "list", .free "tuple", .free "max"] : List He.Fa) ++ ([.free "min", .free "isinstance", .free "bool", .free "dict"] : List He.Fa)
def loose : List Str := (["fewest_sums", "_law_cell", "_law_pool", "_law_draw", "_law_is_integer", "_law_lengths", "_law_due", "_law_right"] : List Str)
abbrev hR : PySem.W.OpenRow := PySem.W.OpenLaw.row PySem.Challenge.rw_ringingchamber_k44_sums_of_lengths
abbrev hk : PySem.W.Hook := He.hookD 4 hFa hFn
def hOb (s : PySem.W.SharedT) : He.AlD := He.obsDG 4 hFa hFn (HandSHeadRun.getT s)
theorem hOb_eq (s : PySem.W.SharedT) : hOb s = hk.obs s.abs := He.obsDG_eq (HandSHeadRun.getT_eq s)
theorem run (w : World) : HandSHeadRun.RunEq hR (PySem.W.view hR.prog [10]) hk hOb 20000 loose w := by
  intro os
  kernel_rfl
theorem facts {K : PySem.W.Frag} {h : Heap} {mg : Str → Option Value} (X : K.In h) (G : h.Ns mainGlobals mg) (c : He.SaysD hFa hFn K) : Tx K mg where
  d_fewest_sums := by
    obtain ⟨fd, F⟩ := c.def_ 0 (d := dG "fewest_sums" 1) rfl
    exact ⟨_, fd, F, He.glo_ok X G (c.fact 0 (f := .glo "fewest_sums") rfl)⟩
  d__law_cell := by
    obtain ⟨fd, F⟩ := c.def_ 1 (d := dG "_law_cell" 3) rfl
    exact ⟨_, fd, F, He.glo_ok X G (c.fact 1 (f := .glo "_law_cell") rfl)⟩
  d__law_pool := by
    obtain ⟨fd, F⟩ := c.def_ 2 (d := dG "_law_pool" 4) rfl
    exact ⟨_, fd, F, He.glo_ok X G (c.fact 2 (f := .glo "_law_pool") rfl)⟩
  d__law_draw := by
    obtain ⟨fd, F⟩ := c.def_ 3 (d := dG "_law_draw" 5) rfl
    exact ⟨_, fd, F, He.glo_ok X G (c.fact 3 (f := .glo "_law_draw") rfl)⟩
  d__law_is_integer := by
    obtain ⟨fd, F⟩ := c.def_ 4 (d := dG "_law_is_integer" 6) rfl
    exact ⟨_, fd, F, He.glo_ok X G (c.fact 4 (f := .glo "_law_is_integer") rfl)⟩
  d__law_lengths := by
    obtain ⟨fd, F⟩ := c.def_ 5 (d := dG "_law_lengths" 7) rfl
    exact ⟨_, fd, F, He.glo_ok X G (c.fact 5 (f := .glo "_law_lengths") rfl)⟩
  d__law_due := by
    obtain ⟨fd, F⟩ := c.def_ 6 (d := dG "_law_due" 8) rfl
    exact ⟨_, fd, F, He.glo_ok X G (c.fact 6 (f := .glo "_law_due") rfl)⟩
  d__law_right := by
    obtain ⟨fd, F⟩ := c.def_ 7 (d := dG "_law_right" 9) rfl
    exact ⟨_, fd, F, He.glo_ok X G (c.fact 7 (f := .glo "_law_right") rfl)⟩
  d_law := by
    obtain ⟨fd, F⟩ := c.def_ 8 (d := dG "law" 10) rfl
    exact ⟨_, fd, F, He.glo_ok X G (c.fact 8 (f := .glo "law") rfl)⟩
  f_len := He.free_ok X G (c.fact 9 (f := .free "len") rfl)
  f_abs := He.free_ok X G (c.fact 10 (f := .free "abs") rfl)
  f_int := He.free_ok X G (c.fact 11 (f := .free "int") rfl)
  f_range := He.free_ok X G (c.fact 12 (f := .free "range") rfl)
  f_list := He.free_ok X G (c.fact 13 (f := .free "list") rfl)
  f_tuple := He.free_ok X G (c.fact 14 (f := .free "tuple") rfl)
  f_max := He.free_ok X G (c.fact 15 (f := .free "max") rfl)
  f_min := He.free_ok X G (c.fact 16 (f := .free "min") rfl)
  f_isinstance := He.free_ok X G (c.fact 17 (f := .free "isinstance") rfl)
  f_bool := He.free_ok X G (c.fact 18 (f := .free "bool") rfl)
  f_dict := He.free_ok X G (c.fact 19 (f := .free "dict") rfl)
end RC
open PySem PySem.W PySem.Calls PyProof.Rows
set_option maxHeartbeats 0 in
theorem PySem.Challenge.cw_ringingchamber_k44_sums_of_lengths_holds : PySem.Challenge.rw_ringingchamber_k44_sums_of_lengths.Holds := by
  w_on; o_law
  refine HandSHeadRun.head_any (r := OpenLaw.row PySem.Challenge.rw_ringingchamber_k44_sums_of_lengths) (q := view (OpenLaw.row PySem.Challenge.rw_ringingchamber_k44_sums_of_lengths).prog [10]) (H := RC.hk) (ob := RC.hOb) (M := 20000) (loose := RC.loose) (d := HandSHeadRun.topDef (OpenLaw.row PySem.Challenge.rw_ringingchamber_k44_sums_of_lengths).prog 10) (kwd := []) RC.hOb_eq
    (by kernel_rfl) (fun s => by kernel_rfl) RC.run (by kernel_rfl) (by kernel_rfl) (by kernel_rfl) (by rfl) (by first | assumption | decide +kernel) (by decide +kernel) ⟨rfl, rfl, rfl, rfl, rfl, by decide +kernel⟩ ?hw ?hc
  case hw => w_witness2
  case hc =>
    refine L2.walk_ofE (l := PySem.Challenge.rw_ringingchamber_k44_sums_of_lengths) (n := 63) (k := 3) (x := "script") (CX := L2.CX0) rfl (by decide) (by kernel_rfl) ⟨rfl, by decide, by decide⟩ ?F (fun _ _ _ _ z => z)
    intro w mg fa h Y G hmg0
    obtain ⟨K, KX, c⟩ := Y
    have T := RC.facts KX G c
    have hmg : mg ("law" : PySem.Str) = some (.ref fa) := by
      have e : (HandSHeadRun.topDef (OpenLaw.row PySem.Challenge.rw_ringingchamber_k44_sums_of_lengths).prog 10).name = ("law" : PySem.Str) := by kernel_rfl
      rw [← e]
      exact hmg0
    obtain ⟨f, fd, F, hm⟩ := T.d_law
    have e := hmg.symm.trans hm
    cases e
    exact ⟨K, fd, RC.spLaw K, KX, fun s v => L2.FunD.bindsA (ps := ["script"]) F (fun _ _ _ _ _ _ us hl => match us, hl with | [_], _ => rfl) s [v] rfl, fun H a ns hl _ hS => ⟨a, ns, rfl, hS, fun _ => rfl⟩, fun base _ _ => RC.ok_law T F⟩
