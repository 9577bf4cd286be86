import PyProof.Rows.All
import Wide.All
import OpenK.AllK
import Wide.FinOn
import KE.DataMinMax
import HandS.ForMost
import HandS.ForExc
import HandS.Defaults
import HandS.Conv
import HandS.TupAny
import HandS.IsInst
import HandS.Small
import HandS.SortKw
import HandS.Codes
import HandS.Walk
import HandS.Head0
import HandS.Head1
import HandS.Head2
import HandS.HeadEnd
import HandS.HeadHook1
import HandS.HeadHook2
import PyProof.Rows.ListStrD
import PyProof.Rows.TupleMadeD
import PyProof.Rows.SortShellAny
import PyProof.Rows.StrMeet
import HandS.StrMore
import HandS.Replace
import HandS.Text
import PySem.Challenge.RW_ringingchamber_k45_complete_lists
set_option Elab.async false
set_option linter.all false
set_option maxRecDepth 100000
set_option maxHeartbeats 4000000
namespace RC
open PySem PySem.Spec PyProof.Rows L2

/-- a def of the top, as it stands behind it -/
def HasDef (K : PySem.W.Frag) (mg : Str → Option Value) (x : Str) (st : Stmt) : Prop :=
  ∃ (f : Addr) (fd : FuncData), FunD K x x (defArgs st) (defBody st) (defScope st) [] [] f fd ∧ mg x = some (.ref f)

/-- a def of the top that keeps a promise -/
structure Cal (P : Program) (w : World) (K : PySem.W.Frag) (mg : Str → Option Value) (base : Heap) (x : Str) (k : Nat) (ps : List Str) (sp : Sp) : Prop where
  ex : ∃ (f : Addr) (fd : FuncData), mg x = some (.ref f) ∧ PySem.W.keepIn K (.ref f) = true ∧ Binds K fd ps [] ∧ FnOk P w K mg base (L2.CX P w) k f fd ps sp

section
variable {P : Program} {w : World} {K : PySem.W.Frag} {mg : Str → Option Value} {base : Heap}
theorem Cal.of {x : Str} {st : Stmt} {N ps : List Str} {k : Nat} {sp : Sp} (h : HasDef K mg x st) (S : FnScope N ps (defScope st))
    (hb : ∀ (kV doc pm : Value) (an : Option Addr) (cdv ct : Value) (us : List Value), us.length = ps.length →
      bindArgs (PySem.W.fnOf x x (defArgs st) (defBody st) (defScope st) .none kV doc pm an cdv ct) ⟨us, []⟩ = pure (ps.zip us))
    (len : ∀ vs H Q E, sp vs H Q E → vs.length = ps.length)
    (hbody : ∀ (f : Addr) (cdv : Value) (A : Around) (outer : List Env) (s : Shared) (H : Hp) (vs : List V) (Q : VK) (E : XK), Room k (A.deeper (envOfC x (defScope st) s.heap.objs.size f cdv)) → sp vs H Q E →
      ∃ t, PSs (cxOf (L2.CX P w) P w K mg base N x (defScope st) f cdv A outer s H E) (defBody st) t ∧ t { nx := fun _ H' => Q .non H', rt := Q } (start N vs) H) : Cal P w K mg base x (k + 1) ps sp := by
  obtain ⟨f, fd, F, hm⟩ := h
  exact ⟨f, fd, hm, F.kp, F.bindsN hb, F.ok S len fun cdv A outer s H vs Q E hr hsp => hbody f cdv A outer s H vs Q E hr hsp⟩
end
/-- a call of such a def -/
theorem pe_cal {X : Cx} {x : Str} {j k : Nat} {ps : List Str} {sp : Sp} {E : XK} {e : Expr} {es : List Expr} {t : TA} {p pos : Pos} (C : Cal X.prog X.w X.K X.mg X.base x j ps sp) (hr : Room k X.A) (hx : Passes (L2.CX X.prog X.w) X E) (ha : PA X (e :: es) t)
    (hj : j ≤ k := by decide) (hg : Gl X x := by rfl) (hdb : (x == ("__debug__" : Str)) = false := by decide) (he : starEach (e :: es) X.env = (false, eval e X.env) :: starEach es X.env := by rfl) (hpl : (backTo pos (starEach es X.env)).any (·.1) = false := by rfl) :
    PE X (.Call (.Name x p) (e :: es) [] pos) (tCall sp [] E t) := by
  obtain ⟨f, fd, hm, kp, hb, F⟩ := C.ex
  exact pe_call F (hr.mono hj) hg hm kp hb .nil hx ha hdb he hpl
theorem pe_cal0 {X : Cx} {x : Str} {j k : Nat} {ps : List Str} {sp : Sp} {E : XK} {p pos : Pos} (C : Cal X.prog X.w X.K X.mg X.base x j ps sp) (hr : Room k X.A) (hx : Passes (L2.CX X.prog X.w) X E)
    (hj : j ≤ k := by decide) (hg : Gl X x := by rfl) (hdb : (x == ("__debug__" : Str)) = false := by decide) :
    PE X (.Call (.Name x p) [] [] pos) (tCall sp [] E tNil) := by
  obtain ⟨f, fd, hm, kp, hb, F⟩ := C.ex
  exact pe_call0 F (hr.mono hj) hg hm kp hb .nil hx hdb
/-- binding of one, two, .. parameters -/
theorem _root_.L2.Same.vnew {H H1 : Hp} {p : Addr} {o : HO} (h : Same H H1) (n : H1 p = none) : Same H (upd H1 p o) := fun b u e => by
  rw [upd_ne (ne_of_none (h b u e) n)]
  exact h b u e
/-- all but the object at a stands -/
def But (a : Addr) (H H' : Hp) : Prop := ∀ b o, b ≠ a → H b = some o → H' b = some o
theorem But.refl {a : Addr} {H : Hp} : But a H H := fun _ _ _ e => e
theorem But.trans {a : Addr} {H H1 H2 : Hp} (x : But a H H1) (y : But a H1 H2) : But a H H2 := fun b o n e => y b o n (x b o n e)
theorem But.of {a : Addr} {H H1 : Hp} (x : Same H H1) : But a H H1 := fun b o _ e => x b o e
theorem But.write {a : Addr} {H : Hp} {o : HO} : But a H (upd H a o) := fun b u n e => by rw [upd_ne n]; exact e
theorem But.new {a p : Addr} {H H1 : Hp} {o : HO} (x : But a H H1) (n : H1 p = none) : But a H (upd H1 p o) := fun b u nb e => by
  have e1 := x b u nb e
  rw [upd_ne (ne_of_none e1 n)]
  exact e1
theorem But.put {a : Addr} {H H1 : Hp} {o : HO} (x : But a H H1) : But a H (upd H1 a o) := x.trans .write
theorem But.fresh {a l : Addr} {H H1 : Hp} {o : HO} (x : But a H H1) (n : H l = none) : But a H (upd H1 l o) := fun b u nb e => by
  rw [upd_ne (ne_of_none e n)]
  exact x b u nb e
theorem _root_.L2.Same.fresh {l : Addr} {H H1 : Hp} {o : HO} (x : Same H H1) (n : H l = none) : Same H (L2.upd H1 l o) := fun b u e => by
  rw [upd_ne (ne_of_none e n)]
  exact x b u e
theorem But.free {a l : Addr} {H H1 : Hp} (x : But a H H1) (h : H1 l = none) (n : l ≠ a) : H l = none := by
  cases e : H l with
  | none => rfl
  | some u => rw [x l u n e] at h; cases h
theorem upd_self {H : Hp} {a : Addr} {o : HO} (h : H a = some o) : upd H a o = H := by
  funext b
  unfold L2.upd
  split
  · rename_i e
    rw [e, h]
  · rfl
theorem upd_back {H : Hp} {a : Addr} {o u : HO} (h : H a = some o) : upd (upd H a u) a o = H := by
  rw [upd_upd]
  exact upd_self h
/-- tuples stand whatever happens elsewhere -/
theorem But.tup {K : PySem.W.Frag} {a b : Addr} {H H' : Hp} {xs : List V} (x : But a H H') (h : SqT K H b xs) (n : ∀ u, H a = some u → ¬ (∃ ys, u = .tup ys) ∧ ¬ ∃ o ys, u = .frz o (.tup ys)) : SqT K H' b xs := by
  rcases h with (h | ⟨o, h⟩) | h
  · refine .inl (.inl (x b _ (fun e => ?_) h))
    subst e
    exact (n _ h).1 ⟨_, rfl⟩
  · refine .inl (.inr ⟨o, x b _ (fun e => ?_) h⟩)
    subst e
    exact (n _ h).2 ⟨_, _, rfl⟩
  · exact .inr h
theorem _root_.L2.Same.vtup {K : PySem.W.Frag} {b : Addr} {H H' : Hp} {xs : List V} (x : Same H H') (h : SqT K H b xs) : SqT K H' b xs := by
  rcases h with (h | ⟨o, h⟩) | h
  · exact .inl (.inl (x b _ h))
  · exact .inl (.inr ⟨o, x b _ h⟩)
  · exact .inr h
end RC
namespace RC
open PySem PySem.Spec PyProof.Rows L2

/-! ### operators by name -/
def oAdd : R2 := rI0 fun i j => .int (i + j)
def oSub : R2 := rI0 fun i j => .int (i - j)
def oMul : R2 := rI CMul fun i j => .int (i * j)
def oDiv : R2 := rI CDiv fun i j => .int (i / j)
def oMod : R2 := rI (fun _ j => 0 < j) fun i j => .int (i % j)
def oPow : R2 := rI CPow fun i j => .int (i ^ j.toNat)
def oLt : R2 := rI0 fun i j => .bl (decide (i < j))
def oLe : R2 := rI0 fun i j => .bl (decide (i ≤ j))
def oGt : R2 := rI0 fun i j => .bl (decide (j < i))
def oGe : R2 := rI0 fun i j => .bl (decide (j ≤ i))
def uNeg : V → Hp → VK → Prop := rU fun i => .int (-i)
def bLen (K : PySem.W.Frag) : List V → Hp → VK → Prop := fun xs H Q => ∃ p ys, xs = [.ref p] ∧ (SqL K H p ys ∨ SqT K H p ys) ∧ Q (.int ys.length) H
def bLenS : List V → Hp → VK → Prop := fun xs H Q => ∃ z, xs = [.str z] ∧ z.length ≤ sizeLine ∧ Q (.int z.length) H
def bLenD : List V → Hp → VK → Prop := fun xs H Q => ∃ (a : Addr) (kvs : List (Key × V)), xs = [V.ref a] ∧ H a = some (.dK kvs) ∧ Q (.int kvs.length) H
def bAbs : List V → Hp → VK → Prop := fun xs H Q => ∃ i, xs = [.int i] ∧ Q (.int (if i < 0 then -i else i)) H
def bInt : List V → Hp → VK → Prop := fun xs H Q => (∃ i, xs = [.int i] ∧ Q (.int i) H) ∨ ∃ k, xs = [.bl k] ∧ Q (.int (if k then 1 else 0)) H
def bTup (K : PySem.W.Frag) : List V → Hp → VK → Prop := fun xs H Q => ∃ p ys, xs = [.ref p] ∧ ((SqL K H p ys ∧ ∀ l, H l = none → Q (.ref l) (upd H l (.tup ys))) ∨ (SqT K H p ys ∧ Q (.ref p) H))
def bList (K : PySem.W.Frag) : List V → Hp → VK → Prop := fun xs H Q => ∃ p ys, xs = [.ref p] ∧ (SqL K H p ys ∨ SqT K H p ys) ∧ ∀ l, H l = none → Q (.ref l) (upd H l (.lst ys))
def bMin2 : List V → Hp → VK → Prop := fun xs H Q => ∃ i j, xs = [.int i, .int j] ∧ Q (.int (if j < i then j else i)) H
def bMax2 : List V → Hp → VK → Prop := fun xs H Q => ∃ i j, xs = [.int i, .int j] ∧ Q (.int (if j > i then j else i)) H
section
variable {X : Cx}
theorem w_add : OpR X (binaryOp .Add) oAdd := op_add
theorem w_sub : OpR X (binaryOp .Sub) oSub := op_sub
theorem w_mul : OpR X (binaryOp .Mult) oMul := op_mul
theorem w_fdiv : OpR X (binaryOp .FloorDiv) oDiv := op_fdiv
theorem w_mod : OpR X (binaryOp .Mod) oMod := op_mod
theorem w_pow : OpR X (binaryOp .Pow) oPow := op_pow
theorem w_lt : OpR X (compareOp .Lt) oLt := op_lt
theorem w_le : OpR X (compareOp .LtE) oLe := op_le
theorem w_gt : OpR X (compareOp .Gt) oGt := op_gt
theorem w_ge : OpR X (compareOp .GtE) oGe := op_ge
theorem w_neg : UnR X (unaryOp .USub) uNeg := un_neg
theorem w_len : CallR X (.builtin "len") (bLen X.K) := call_len_seq
theorem w_lenS : CallR X (.builtin "len") bLenS := call_len_str
theorem w_lenD : CallR X (.builtin "len") bLenD := call_lenD
theorem w_abs : CallR X (.builtin "abs") bAbs := call_abs
theorem w_int : CallR X (.type "int") bInt := call_int1
theorem w_tup : CallR X (.type "tuple") (bTup X.K) := call_tuple_of
theorem w_list : CallR X (.type "list") (bList X.K) := call_list_of
theorem w_min2 (hc : X.calm = true) : CallR X (.builtin "min") bMin2 := call_min2 hc
theorem w_max2 (hc : X.calm = true) : CallR X (.builtin "max") bMax2 := call_max2 hc

/-! ### max(xs, default=d), min(xs, default=d) of ints -/
def bMaxD (K : PySem.W.Frag) : List V → List V → Hp → VK → Prop := fun xs zs H Q => ∃ (a : Addr) (ns : List Int) (d : V), xs = [.ref a] ∧ zs = [d] ∧ (SqT K H a (ns.map V.int) ∨ SqL K H a (ns.map V.int)) ∧
  (ns = [] → Q d H) ∧ ∀ n r, ns = n :: r → Q (.int (r.foldl max n)) H
def bMinD (K : PySem.W.Frag) : List V → List V → Hp → VK → Prop := fun xs zs H Q => ∃ (a : Addr) (ns : List Int) (d : V), xs = [.ref a] ∧ zs = [d] ∧ (SqT K H a (ns.map V.int) ∨ SqL K H a (ns.map V.int)) ∧
  (ns = [] → Q d H) ∧ ∀ n r, ns = n :: r → Q (.int (r.foldl min n)) H
theorem alike_all (ns : List Int) : PySem.W.AlikeAll (ns.map PyData.int) := by
  refine ⟨fun x hx y hy => ?_, fun x hx => ?_⟩
  · obtain ⟨i, _, rfl⟩ := List.mem_map.mp hx
    obtain ⟨j, _, rfl⟩ := List.mem_map.mp hy
    rfl
  · obtain ⟨i, _, rfl⟩ := List.mem_map.mp hx
    intro e
    cases e
theorem depth_ints : ∀ ns : List Int, PyData.depthAll (ns.map PyData.int) = 0
  | [] => rfl
  | n :: r => by
    show max 0 (PyData.depthAll (r.map PyData.int)) = 0
    rw [depth_ints r]
    rfl
theorem w_maxD (hc : X.calm = true) (hu : X.A.units + 1 < cLine) : CallRK X (.builtin "max") [Str.ofString "default"] (bMaxD X.K) := by
  intro pins s σ H xs zs us ws Q I r rz h
  obtain ⟨a, ns, d, rfl, rfl, hs, h0, h1⟩ := h
  rw [Vals.ref1 r]
  obtain ⟨dv, rfl, rd⟩ := vals1 rz
  have fin : ∀ (y : PyData) (ys : List PyData) (v : Value) (h' : Heap) (tk : Nat) (bs : List Addr), ns.map PyData.int = y :: ys → Reads h' v (PySem.W.maxD y ys) bs → (∀ b o, s.heap.get? b = some o → h'.get? b = some o) →
      EP X pins σ Q v { s with heap := h', toks := tk } := fun y ys v h' tk bs e rr hk => by
    cases ns with
    | nil => cases e
    | cons n r =>
      have e1 : PyData.int n = y := by injection e
      have e2 : r.map PyData.int = ys := by injection e
      subst e1 e2
      rw [PySem.W.maxD_ints] at rr
      cases rr
      exact ⟨.int _, H, I.kept hk, ⟨_, rfl⟩, h1 n r rfl⟩
  rcases hs with hs | hs
  · obtain ⟨its, rv, ht, hz⟩ := I.tuple hs
    refine PySem.W.max_tuple_default (I.ok.hd hc) ht (rv.ints.reads s.heap) (alike_all ns) (by rw [depth_ints]; exact hu) (fun e h' tk hk => ?_) fun y ys i v h' tk bs e _ rr hk => fin y ys v h' tk bs e rr hk
    exact ⟨d, H, I.kept hk, rd, h0 (by simpa using e)⟩
  · obtain ⟨its, rv, hl, _⟩ := I.list hs
    refine PySem.W.max_list_default (I.ok.hd hc) hl.isList (rv.ints.reads s.heap) (alike_all ns) (by rw [depth_ints]; exact hu) (fun e h' tk hk => ?_) fun y ys i v h' tk bs e _ rr hk => fin y ys v h' tk bs e rr hk
    exact ⟨d, H, I.kept hk, rd, h0 (by simpa using e)⟩
theorem w_minD (hc : X.calm = true) (hu : X.A.units + 1 < cLine) : CallRK X (.builtin "min") [Str.ofString "default"] (bMinD X.K) := by
  intro pins s σ H xs zs us ws Q I r rz h
  obtain ⟨a, ns, d, rfl, rfl, hs, h0, h1⟩ := h
  rw [Vals.ref1 r]
  obtain ⟨dv, rfl, rd⟩ := vals1 rz
  have fin : ∀ (y : PyData) (ys : List PyData) (v : Value) (h' : Heap) (tk : Nat) (bs : List Addr), ns.map PyData.int = y :: ys → Reads h' v (PySem.W.minD y ys) bs → (∀ b o, s.heap.get? b = some o → h'.get? b = some o) →
      EP X pins σ Q v { s with heap := h', toks := tk } := fun y ys v h' tk bs e rr hk => by
    cases ns with
    | nil => cases e
    | cons n r =>
      have e1 : PyData.int n = y := by injection e
      have e2 : r.map PyData.int = ys := by injection e
      subst e1 e2
      rw [PySem.W.minD_ints] at rr
      cases rr
      exact ⟨.int _, H, I.kept hk, ⟨_, rfl⟩, h1 n r rfl⟩
  rcases hs with hs | hs
  · obtain ⟨its, rv, ht, hz⟩ := I.tuple hs
    refine PySem.W.min_tuple_default (I.ok.hd hc) ht (rv.ints.reads s.heap) (alike_all ns) (by rw [depth_ints]; exact hu) (fun e h' tk hk => ?_) fun y ys i v h' tk bs e _ rr hk => fin y ys v h' tk bs e rr hk
    exact ⟨d, H, I.kept hk, rd, h0 (by simpa using e)⟩
  · obtain ⟨its, rv, hl, _⟩ := I.list hs
    refine PySem.W.min_list_default (I.ok.hd hc) hl.isList (rv.ints.reads s.heap) (alike_all ns) (by rw [depth_ints]; exact hu) (fun e h' tk hk => ?_) fun y ys i v h' tk bs e _ rr hk => fin y ys v h' tk bs e rr hk
    exact ⟨d, H, I.kept hk, rd, h0 (by simpa using e)⟩
end
end RC
namespace RC
open PySem PySem.Spec PyProof.Rows L2 HT
theorem adjust_back (n : Nat) : Builtin.Slice.sliceAdjust none none (-1) (n : Int) = ((n : Int) - 1, -1) := by
  unfold Builtin.Slice.sliceAdjust
  first | rfl | simp
theorem places_back (n : Nat) : Builtin.Slice.slicePlaces ((n : Int) - 1) (-1) (-1) = n := by
  unfold Builtin.Slice.slicePlaces
  have h1 : ¬ ((-1 : Int) > 0) := by omega
  simp only [h1, if_false]
  have e : ((n : Int) - 1 - -1 - 1) / (- -1) = (n : Int) - 1 := by
    rw [show (- -1 : Int) = 1 by decide, Int.ediv_one]
    omega
  rw [e]
  split <;> omega
theorem krevf {β : Type} (n : Nat) (f : Nat → Option β) : (List.range n).filterMap (fun (m : Nat) => f ((n : Int) - 1 + (m : Int) * -1).toNat) = ((List.range n).map fun k => n - 1 - k).filterMap f := by
  rw [List.filterMap_map]
  have : ∀ (l : List Nat), (∀ m ∈ l, m < n) → l.filterMap (fun (m : Nat) => f ((n : Int) - 1 + (m : Int) * -1).toNat) = l.filterMap (f ∘ fun k => n - 1 - k) := by
    intro l
    induction l with
    | nil => intro _; rfl
    | cons a r ih =>
      intro h
      have ha := h a List.mem_cons_self
      have e : ((n : Int) - 1 + (a : Int) * -1).toNat = n - 1 - a := by omega
      rw [List.filterMap_cons, List.filterMap_cons, ih fun m hm => h m (List.mem_cons_of_mem _ hm)]
      simp only [Function.comp, e]
  exact this _ fun m hm => List.mem_range.mp hm
theorem pick_back (xs : Array Value) : ((List.range xs.size).filterMap fun (m : Nat) => xs[((xs.size : Int) - 1 + (m : Int) * -1).toNat]?).toArray = xs.toList.reverse.toArray := by
  have e : (List.range xs.size).filterMap (fun (m : Nat) => xs[((xs.size : Int) - 1 + (m : Int) * -1).toNat]?) = ((List.range xs.size).map fun k => xs.size - 1 - k).filterMap (xs[·]?) := by
    rw [← krevf xs.size fun k => xs[k]?]
  rw [e, PySem.W.krv_range, List.filterMap_reverse, PySem.W.krv_all]
section
variable {prog : Program} {w : World} {A : Around} {E : Value → Shared → Prop} {s : Shared}
theorem getItem_tuple_rev {t sl : Addr} {items : Array Value} {vs : Value} {Q : Value → Shared → Prop} (ht : IsTup s.heap t items) (hs : s.heap.IsSliceOf sl .none .none vs) (ps : IsPart vs (some (-1)))
    (h : Q (.ref s.heap.objs.size) { s with heap := s.heap.push { cls := .type "tuple", data := .seq items.toList.reverse.toArray } })
    (hsz : items.size ≤ sizeLine) : wpAny (model prog w) A (getItem (.ref t) (.ref sl)) Q E s := by
  have htake : sizeOk (.seq items.toList.reverse.toArray) := by
    show items.toList.reverse.toArray.size ≤ sizeLine
    rw [List.size_toArray, List.length_reverse, Array.length_toList]
    exact hsz
  obtain ⟨os, hos, hcs, hds⟩ := id hs
  have hTs : s.TypeIs (.ref sl) "slice" := ⟨os, hos, hcs⟩
  unfold getItem
  try with_reducible refine wpAny_holding ?_
  first | refine wpAny_bind (wpAny_pure ?_) | skip
  refine wpAny_bind (wpAny_sequenceKey ht.typeIs (by decide) ?_)
  refine wpAny_bind (wpAny_callSpecial?_slot (name := Str.ofString "__getitem__") ht.typeIs PyProof.Rows.slot_tuple_getitem
    (wpAny_call_entry PyProof.Rows.slot_tuple_getitem ht.typeIs entry_tuple_getitem ?_ (args_tuple_getitem _ _)))
  show wpAny _ _ (Builtin.Tuple.tupleItemsOf (.ref t) >>= _) _ _ s
  refine wpAny_bind (tupleItemsOf_ ht ?_)
  refine wpAny_bind (wpAny_typeOf hTs ?_)
  rw [if_pos (by decide)]
  have step : ∀ {A : Around} {E : Value → Shared → Prop} {Q' : Int × Int × Nat → Shared → Prop}, Q' ((items.size : Int) - 1, -1, items.size) s → wpAny (model prog w) A (Builtin.Slice.sliceApplied (.ref sl) (pure (items.size : Int))) Q' E s := fun {A E Q'} q => by
    unfold Builtin.Slice.sliceApplied Builtin.Slice.sliceFields
    refine wpAny_bind (wpAny_bind (wpAny_field hos hds (x := .none) rfl (wpAny_bind (wpAny_field hos hds (x := .none) rfl (wpAny_bind (wpAny_field hos hds (x := vs) rfl (wpAny_pure ?_)))))))
    refine wpAny_bind (slicePart_ ps ?_)
    show wpAny _ _ (if ((-1 : Int) == 0) = true then _ else _) _ _ s
    rw [if_neg (by decide)]
    refine wpAny_bind (slicePart_ .none (wpAny_bind (slicePart_ .none (wpAny_bind (wpAny_pure ?_)))))
    show wpAny _ _ (match Builtin.Slice.sliceAdjust none none (-1) (items.size : Int) with | (lo, hi) => pure (lo, (-1 : Int), Builtin.Slice.slicePlaces lo hi (-1))) _ _ s
    rw [adjust_back]
    show wpAny _ _ (pure ((items.size : Int) - 1, (-1 : Int), Builtin.Slice.slicePlaces ((items.size : Int) - 1) (-1) (-1))) _ _ s
    rw [places_back]
    exact wpAny_pure q
  refine wpAny_bind (step ?_)
  have hno : ¬ ((((items.size : Int) - 1) == 0 && (-1 : Int) == 1 && items.size == items.size) = true) := by simp
  show wpAny _ _ (if ((((items.size : Int) - 1) == 0 && (-1 : Int) == 1 && items.size == items.size)) = true then _ else _) _ _ s
  rw [if_neg hno, pick_back]
  first
    | exact wpAny_bind (m := Builtin.Tuple.tupleExact _) (wpAny_newObj_type (wpAny_pure ⟨_, rfl, wpAny_pure h⟩) htake)
    | exact wpAny_bind (m := Builtin.Tuple.tupleExact _) (wpAny_newObj_type (wpAny_bind (wpAny_pure (wpAny_pure ⟨_, rfl, wpAny_pure h⟩))) htake)
    | exact wpAny_bind (wpAny_bind (m := Builtin.Tuple.tupleExact _) (wpAny_newObj_type (wpAny_pure (wpAny_pure ⟨_, rfl, wpAny_pure h⟩)) htake))
    | exact wpAny_bind (wpAny_bind (m := Builtin.Tuple.tupleExact _) (wpAny_newObj_type (wpAny_pure ⟨_, rfl, wpAny_pure h⟩) htake))
end
section
variable {X : Cx}
/-- t[::-1] of a tuple -/
def tRevT (K : PySem.W.Frag) (te : TE) : TE := fun σ H Q => te σ H fun x H1 => ∃ a xs, x = .ref a ∧ SqT K H1 a xs ∧ ∀ p, H1 p = none → Q (.ref p) (upd H1 p (.tup xs.reverse))
theorem pe_revT {e : Expr} {te : TE} {k : Nat} {p1 p2 p3 pos : Pos} (he : PE X e te) : PE X (.Subscript e (.Slice none none (some (.UnaryOp .USub (.Constant (.int 1) k p1) p2)) p3) pos) (tRevT X.K te) := by
  refine ⟨fun pins s σ H Q I h => ?_⟩
  refine Subscript_ (thn (he.run pins s σ H _ I h) fun v s1 ⟨x, H1, I1, r1, q1⟩ => ?_)
  obtain ⟨a, xs, ex, hx, q⟩ := q1
  subst ex
  cases r1
  have hst : PO X (some (.UnaryOp .USub (.Constant (.int 1) k p1) p2)) (tPart (tUn (rU fun i => .int (-i)) (tC (.int 1)))) := po_some (pe_un un_neg pe_int)
  refine wpAny_Slice (thn (po_none.run pins s1 σ H1 (fun o H2 => o = none ∧ H2 = H1) I1 ⟨rfl, rfl⟩) fun vl s2 ⟨l, H2, I2, pl, el, e2⟩ => ?_)
  subst el e2
  refine thn (po_none.run pins s2 σ H2 (fun o H3 => o = none ∧ H3 = H2) I2 ⟨rfl, rfl⟩) fun vu s3 ⟨u, H3, I3, pu, eu, e3⟩ => ?_
  subst eu e3
  refine thn (hst.run pins s3 σ H3 (fun o H4 => o = some (-1) ∧ H4 = H3) I3 ⟨1, rfl, -1, rfl, rfl, rfl⟩) fun vs s4 ⟨o, H4, I4, ps, eo, e4⟩ => ?_
  subst eo e4
  cases pl
  cases pu
  have I5 : Inv X pins σ H4 { s4 with heap := s4.heap.push { cls := .type "slice", data := .fields #[.none, .none, vs] } } := I4.kept (t' := s4.toks) fun b ob q => Heap.get?_push_of_some _ q
  obtain ⟨its, r, ht, hz⟩ := I5.tuple hx
  have hlen := r.length
  show wpAny (model X.prog X.w) X.A (subscriptTail e (.Slice none none (some (.UnaryOp .USub (.Constant (.int 1) k p1) p2)) p3) (.ref a) (.ref s4.heap.objs.size)) (EP X pins σ Q) X.xe { s4 with heap := s4.heap.push { cls := .type "slice", data := .fields #[.none, .none, vs] } }
  refine tail_any (ops := [.ref a, .ref s4.heap.objs.size]) ht.typeIs (PyProof.Rows.slot_tuple_getitem.lookup) ?_ (by with_unfolding_all rfl)
  refine getItem_tuple_rev ht (Heap.IsSliceOf.new _ .none .none vs) ps ?_ (by rw [List.size_toArray]; omega)
  refine ⟨.ref _, _, I5.laid (t' := s4.toks) (o := .tup xs.reverse) (fun b ob q => Heap.get?_push_of_some _ q) (Nat.le_refl _) ?_, rfl, q _ (I5.hok.fresh (Nat.le_refl _))⟩
  exact ⟨by rw [List.length_reverse]; exact hz, _, r.reverse, IsTup.new _ _⟩
end
end RC
namespace RC
open PySem PySem.Spec PyProof.Rows L2
section
variable {K : PySem.W.Frag} {σ : L2.St} {H : Hp} {D : Ends} {Q : VK} {t u : TS} {te ta tb : TE} {tl : TA} {g : TG} {i : Nat} {v : V}
/-! ### statements -/
theorem v_seq (h : t { D with nx := u D } σ H) : tSeq t u D σ H := h
theorem v_asg (h : te σ H fun x H1 => g x σ H1 D.nx) : tAsg te g D σ H := h
theorem v_gName {R : L2.St → Hp → Prop} {σ' : L2.St} (e : σ.set i (some v) = σ') (h : R σ' H) : gName i v σ H R := by subst e; exact h
theorem v_ret (h : te σ H D.rt) : tRet te D σ H := h
theorem v_retN (h : D.rt .non H) : tRetN D σ H := h
theorem v_next (h : D.nx σ H) : tNext D σ H := h
theorem v_drop (h : te σ H fun _ H1 => D.nx σ H1) : tDrop te D σ H := h
theorem v_if {c : TT} (h : c σ H fun b H1 => if b = true then t D σ H1 else u D σ H1) : tIfS c t u D σ H := h
/-- two statements joined by what holds between them -/
def tJoin (t u : TS) : TS := fun D σ H => ∃ Mid : L2.St → Hp → Prop, t { D with nx := Mid } σ H ∧ ∀ σ' H', Mid σ' H' → u D σ' H'
theorem pss_join {X : Cx} {st : Stmt} {rest : List Stmt} (h1 : PS X st t) (h2 : PSs X rest u) : PSs X (st :: rest) (tJoin t u) := by
  refine ⟨fun pins s σ H D I h => ?_⟩
  obtain ⟨Mid, h, hm⟩ := h
  refine wpAny_execs_cons (thn (h1.run pins s σ H { D with nx := Mid } I h) fun f s1 q => ?_)
  cases f with
  | next =>
    obtain ⟨σ', H', I', q⟩ := q
    exact h2.run pins s1 σ' H' D I' (hm σ' H' q)
  | ret v => exact q
  | brk => exact q
  | cont => exact q
theorem v_join (Mid : L2.St → Hp → Prop) (h1 : t { D with nx := Mid } σ H) (h2 : ∀ σ' H', Mid σ' H' → u D σ' H') : tJoin t u D σ H := ⟨Mid, h1, h2⟩
/-! ### tests -/
theorem v_test {R : Bool → Hp → Prop} (h : te σ H fun x H' => ∃ k, x = .bl k ∧ R k H') : tTest te σ H R := h
theorem v_tB {R : Bool → Hp → Prop} (h : te σ H fun x H' => ∃ k, x = .bl k ∧ R k H') : tB te σ H R := h
theorem v_bl {b : Bool} {R : Bool → Prop} (h : R b) : ∃ k, V.bl b = V.bl k ∧ R k := ⟨b, rfl, h⟩
theorem v_not {c : TT} {R : Bool → Hp → Prop} (h : c σ H fun b H1 => R (!b) H1) : tNot c σ H R := h
theorem v_and {c d : TT} {R : Bool → Hp → Prop} (h : c σ H fun b H1 => if b = true then d σ H1 R else R false H1) : tAnd c d σ H R := h
theorem v_or {c d : TT} {R : Bool → Hp → Prop} (h : c σ H fun b H1 => if b = true then R true H1 else d σ H1 R) : tOr c d σ H R := h
theorem v_andV (h : ta σ H fun x H1 => ∃ c, x = .bl c ∧ if c = true then tb σ H1 Q else Q (.bl false) H1) : tAndV ta tb σ H Q := h
theorem v_orV (h : ta σ H fun x H1 => ∃ c, x = .bl c ∧ if c = true then Q (.bl true) H1 else tb σ H1 Q) : tOrV ta tb σ H Q := h
theorem v_notV (h : ta σ H fun x H1 => ∃ c, x = .bl c ∧ Q (.bl (!c)) H1) : tNotV ta σ H Q := h
theorem v_ifE {c : TT} (h : c σ H fun b H1 => if b = true then ta σ H1 Q else tb σ H1 Q) : tIf c ta tb σ H Q := h
/-- a decided if -/
theorem v_dec {p : Prop} [Decidable p] {A B : Prop} (h1 : p → A) (h2 : ¬ p → B) : if decide p = true then A else B := by
  by_cases h : p
  · rw [if_pos (decide_eq_true h)]; exact h1 h
  · rw [if_neg (by rw [decide_eq_false h]; exact Bool.false_ne_true)]; exact h2 h
theorem v_decN {p : Prop} [Decidable p] {A B : Prop} (h1 : ¬ p → A) (h2 : p → B) : if (!decide p) = true then A else B := by
  by_cases h : p
  · rw [if_neg (by rw [decide_eq_true h]; exact Bool.false_ne_true)]; exact h2 h
  · rw [if_pos (by rw [decide_eq_false h]; rfl)]; exact h1 h
theorem v_decI {a b : Int} {A B : Prop} (h1 : a = b → A) (h2 : ¬ a = b → B) : if decide (V.int a = V.int b) = true then A else B :=
  v_dec (fun h => h1 (V.int.inj h)) fun h => h2 fun e => h (by rw [e])
theorem v_decIN {a b : Int} {A B : Prop} (h1 : ¬ a = b → A) (h2 : a = b → B) : if (!decide (V.int a = V.int b)) = true then A else B :=
  v_decN (fun h => h1 fun e => h (by rw [e])) fun h => h2 (V.int.inj h)
theorem v_ite {b : Bool} {A B : Prop} (h1 : b = true → A) (h2 : b = false → B) : if b = true then A else B := by
  cases b
  · rw [if_neg Bool.false_ne_true]; exact h2 rfl
  · rw [if_pos rfl]; exact h1 rfl
theorem v_iteN {b : Bool} {A B : Prop} (h1 : b = false → A) (h2 : b = true → B) : if (!b) = true then A else B := by
  cases b
  · exact (if_pos (show (!false) = true from rfl)).mpr (h1 rfl)
  · exact (if_neg (show ¬ (!true) = true from Bool.false_ne_true)).mpr (h2 rfl)
theorem v_iteT {A B : Prop} (h : A) : if true = true then A else B := by rw [if_pos rfl]; exact h
theorem v_iteNT {A B : Prop} (h : B) : if (!true) = true then A else B := h
theorem v_iteNF {A B : Prop} (h : A) : if (!false) = true then A else B := h
theorem v_iteF {A B : Prop} (h : B) : if false = true then A else B := by rw [if_neg Bool.false_ne_true]; exact h
/-! ### expressions -/
theorem v_var (e : σ[i]? = some (some v)) (h : Q v H) : tVar i σ H Q := ⟨v, e, h⟩
theorem v_C (h : Q v H) : tC v σ H Q := h
theorem v_op {r : R2} (h : ta σ H fun x H1 => tb σ H1 fun y H2 => r x y H2 Q) : tOp r ta tb σ H Q := h
theorem v_un {r : V → Hp → VK → Prop} (h : ta σ H fun x H1 => r x H1 Q) : tUn r ta σ H Q := h
theorem v_CB {r : List V → Hp → VK → Prop} (h : tl σ H fun vs H1 => r vs H1 Q) : tCB r tl σ H Q := h
theorem v_CKw {r : List V → List V → Hp → VK → Prop} {tk : TA} (h : tl σ H fun vs H1 => tk σ H1 fun zs H2 => r vs zs H2 Q) : tCKw r tl tk σ H Q := h
theorem v_nil {R : List V → Hp → Prop} (h : R [] H) : tNil σ H R := h
theorem v_cons {R : List V → Hp → Prop} (h : te σ H fun x H1 => tl σ H1 fun xs H2 => R (x :: xs) H2) : tCons te tl σ H R := h
theorem v_call {sp : Sp} {E : XK} (h : tl σ H fun vs H1 => sp vs H1 Q E) : tCall sp [] E tl σ H Q := by
  show tl σ H fun vs H1 => sp (vs ++ []) H1 Q E
  have e : (fun (vs : List V) (H1 : Hp) => sp (vs ++ []) H1 Q E) = fun vs H1 => sp vs H1 Q E := by
    funext vs H1
    rw [List.append_nil]
  rw [e]
  exact h
theorem v_tup (h : tl σ H fun xs H1 => xs.length ≤ sizeLine ∧ ∀ p, H1 p = none → Q (.ref p) (upd H1 p (.tup xs))) : tTup tl σ H Q := h
theorem v_lst (h : tl σ H fun xs H1 => xs.length ≤ sizeLine ∧ ∀ p, H1 p = none → Q (.ref p) (upd H1 p (.lst xs))) : tLst tl σ H Q := h
theorem v_revT (h : te σ H fun x H1 => ∃ a xs, x = .ref a ∧ SqT K H1 a xs ∧ ∀ p, H1 p = none → Q (.ref p) (upd H1 p (.tup xs.reverse))) : tRevT K te σ H Q := h
theorem v_sl {r : V → Option Int → Option Int → Hp → VK → Prop} {tl th : L2.TO} (h : te σ H fun x H1 => tl σ H1 fun l H2 => th σ H2 fun u H3 => r x l u H3 Q) : tSl r te tl th σ H Q := h
theorem v_noPart {R : Option Int → Hp → Prop} (h : R none H) : tNoPart σ H R := h
theorem v_part {R : Option Int → Hp → Prop} (h : te σ H fun x H1 => ∃ i, x = .int i ∧ R (some i) H1) : tPart te σ H R := h
theorem v_partI {R : Int → Prop} {i : Int} (h : R i) : ∃ j, V.int i = V.int j ∧ R j := ⟨i, rfl, h⟩
/-! ### operators -/
theorem v_add {a b : Int} (h : Q (.int (a + b)) H) : oAdd (.int a) (.int b) H Q := ⟨a, b, rfl, rfl, h⟩
theorem v_sub {a b : Int} (h : Q (.int (a - b)) H) : oSub (.int a) (.int b) H Q := ⟨a, b, rfl, rfl, h⟩
theorem v_mul {a b : Int} (c : (-(2 ^ 64) < a ∧ a < 2 ^ 64) ∨ (-(2 ^ 64) < b ∧ b < 2 ^ 64)) (h : Q (.int (a * b)) H) : oMul (.int a) (.int b) H Q := ⟨a, b, rfl, rfl, c, h⟩
theorem v_div {a b : Int} (c : 0 < b ∧ b < 2 ^ 30) (h : Q (.int (a / b)) H) : oDiv (.int a) (.int b) H Q := ⟨a, b, rfl, rfl, ⟨by omega, by omega⟩, h⟩
theorem v_mod {a b : Int} (c : 0 < b) (h : Q (.int (a % b)) H) : oMod (.int a) (.int b) H Q := ⟨a, b, rfl, rfl, c, h⟩
theorem v_pow {a b : Int} (c : CPow a b) (h : Q (.int (a ^ b.toNat)) H) : oPow (.int a) (.int b) H Q := ⟨a, b, rfl, rfl, c, h⟩
theorem v_lt {a b : Int} (h : Q (.bl (decide (a < b))) H) : oLt (.int a) (.int b) H Q := ⟨a, b, rfl, rfl, h⟩
theorem v_le {a b : Int} (h : Q (.bl (decide (a ≤ b))) H) : oLe (.int a) (.int b) H Q := ⟨a, b, rfl, rfl, h⟩
theorem v_gt {a b : Int} (h : Q (.bl (decide (b < a))) H) : oGt (.int a) (.int b) H Q := ⟨a, b, rfl, rfl, h⟩
theorem v_ge {a b : Int} (h : Q (.bl (decide (b ≤ a))) H) : oGe (.int a) (.int b) H Q := ⟨a, b, rfl, rfl, h⟩
theorem v_eq {x y : V} (c : scal x y = true) (h : Q (.bl (decide (x = y))) H) : rEq x y H Q := ⟨c, h⟩
theorem v_ne {x y : V} (c : scal x y = true) (h : Q (.bl (!decide (x = y))) H) : rNe x y H Q := ⟨c, h⟩
theorem v_neg {a : Int} (h : Q (.int (-a)) H) : uNeg (.int a) H Q := ⟨a, rfl, h⟩
theorem v_lenL {p : Addr} {ys : List V} (c : SqL K H p ys) (h : Q (.int ys.length) H) : bLen K [.ref p] H Q := ⟨p, ys, rfl, .inl c, h⟩
theorem v_lenT {p : Addr} {ys : List V} (c : SqT K H p ys) (h : Q (.int ys.length) H) : bLen K [.ref p] H Q := ⟨p, ys, rfl, .inr c, h⟩
theorem v_lenS {z : Str} (c : z.length ≤ sizeLine) (h : Q (.int z.length) H) : bLenS [.str z] H Q := ⟨z, rfl, c, h⟩
theorem v_lenD {p : Addr} {kvs : List (Key × V)} (c : H p = some (.dK kvs)) (h : Q (.int kvs.length) H) : bLenD [.ref p] H Q := ⟨p, kvs, rfl, c, h⟩
theorem v_abs {a : Int} (h : Q (.int (if a < 0 then -a else a)) H) : bAbs [.int a] H Q := ⟨a, rfl, h⟩
theorem v_int {a : Int} (h : Q (.int a) H) : bInt [.int a] H Q := .inl ⟨a, rfl, h⟩
theorem v_intB {b : Bool} (h : Q (.int (if b then 1 else 0)) H) : bInt [.bl b] H Q := .inr ⟨b, rfl, h⟩
theorem v_min2 {a b : Int} (h : Q (.int (if b < a then b else a)) H) : bMin2 [.int a, .int b] H Q := ⟨a, b, rfl, h⟩
theorem v_max2 {a b : Int} (h : Q (.int (if b > a then b else a)) H) : bMax2 [.int a, .int b] H Q := ⟨a, b, rfl, h⟩
theorem v_tupL {p : Addr} {ys : List V} (c : SqL K H p ys) (h : ∀ l, H l = none → Q (.ref l) (upd H l (.tup ys))) : bTup K [.ref p] H Q := ⟨p, ys, rfl, .inl ⟨c, h⟩⟩
theorem v_tupT {p : Addr} {ys : List V} (c : SqT K H p ys) (h : Q (.ref p) H) : bTup K [.ref p] H Q := ⟨p, ys, rfl, .inr ⟨c, h⟩⟩
theorem v_listL {p : Addr} {ys : List V} (c : SqL K H p ys) (h : ∀ l, H l = none → Q (.ref l) (upd H l (.lst ys))) : bList K [.ref p] H Q := ⟨p, ys, rfl, .inl c, h⟩
theorem v_listT {p : Addr} {ys : List V} (c : SqT K H p ys) (h : ∀ l, H l = none → Q (.ref l) (upd H l (.lst ys))) : bList K [.ref p] H Q := ⟨p, ys, rfl, .inr c, h⟩
theorem v_ixL {p : Addr} {xs : List V} {i : Int} {v : V} (c : SqL K H p xs) (e : atI xs i = some v) (h : Q v H) : rIxL K (.ref p) (.int i) H Q := ⟨p, xs, i, v, rfl, rfl, c, e, h⟩
theorem v_ixT {p : Addr} {xs : List V} {i : Int} {v : V} (c : SqT K H p xs) (e : atI xs i = some v) (h : Q v H) : rIxT K (.ref p) (.int i) H Q := ⟨p, xs, i, v, rfl, rfl, c, e, h⟩
theorem v_setL {p : Addr} {xs : List V} {k : Int} {j : Nat} {v : V} {R : Hp → Prop} (c : H p = some (.lst xs)) (e : ixN xs.length k = some j) (h : R (upd H p (.lst (xs.set j v)))) : rSetL (.ref p) (.int k) v H R := ⟨p, xs, k, j, rfl, rfl, c, e, h⟩
theorem v_gSub {to ti : TE} {ts : TSet} {R : L2.St → Hp → Prop} (h : to σ H fun o H1 => ti σ H1 fun i H2 => ts o i v H2 fun H3 => R σ H3) : gSub to ti ts v σ H R := h
theorem v_BM {T : String} {r : V → List V → Hp → VK → Prop} (h : ta σ H fun x H1 => tyV K T x H1 ∧ tl σ H1 fun xs H2 => r x xs H2 Q) : tBM K T r ta tl σ H Q := h
theorem v_BM0 {T : String} {r : V → List V → Hp → VK → Prop} (h : ta σ H fun x H1 => tyV K T x H1 ∧ r x [] H1 Q) : tBM0 K T r ta σ H Q := h
theorem v_isL {p : Addr} {xs : List V} {R : Prop} (c : SqL K H p xs) (h : R) : tyV K "list" (.ref p) H ∧ R := ⟨.inl ⟨rfl, _, c⟩, h⟩
theorem v_append {l : Addr} {xs : List V} {y : V} (c : H l = some (.lst xs)) (z : xs.length < sizeLine) (h : Q .non (upd H l (.lst (xs ++ [y])))) : rAppend (.ref l) [y] H Q := ⟨l, xs, y, rfl, rfl, c, z, h⟩
theorem v_new {P : Prop} {o : Hp → Addr → Hp} {n : Nat} (c : n ≤ sizeLine) (h : P) : n ≤ sizeLine ∧ P := ⟨c, h⟩
theorem v_dput {td ty tv : TE} (h : tv σ H fun v H1 => td σ H1 fun x H2 => ty σ H2 fun y H3 => ∃ a H4, x = .ref a ∧ DPut H3 a y v H4 ∧ D.nx σ H4) : sDPut td ty tv D σ H := h
theorem v_dputI {a : Addr} {kvs : List (Key × V)} {k : Int} {v : V} {R : Hp → Prop} (c : H a = some (.dK kvs)) (z : kvs.length < sizeLine) (h : R (upd H a (.dK (putK kvs (Sum.inl k) v)))) :
    ∃ b H4, V.ref a = .ref b ∧ DPut H b (.int k) v H4 ∧ R H4 := ⟨a, _, rfl, DPut.k (k := Sum.inl k) c z, h⟩
theorem v_dget {td ty : TE} (h : td σ H fun x H1 => ty σ H1 fun y H2 => ∃ a v, x = .ref a ∧ DGet H2 a y (some v) ∧ Q v H2) : tDGet td ty σ H Q := h
theorem v_dgetI {a : Addr} {kvs : List (Key × V)} {k : Int} {v : V} {R : V → Prop} (c : Rd H a (.dK kvs)) (e : valV kvs (Sum.inl k) = some v) (h : R v) : ∃ b w, V.ref a = .ref b ∧ DGet H b (.int k) (some w) ∧ R w :=
  ⟨a, v, rfl, .inl ⟨kvs, Sum.inl k, c, rfl, e.symm⟩, h⟩
theorem v_dnotin {td ty : TE} (h : ty σ H fun y H1 => td σ H1 fun x H2 => ∃ a o, x = .ref a ∧ DGet H2 a y o ∧ Q (.bl (!o.isSome)) H2) : tDNotIn ty td σ H Q := h
theorem v_din {td ty : TE} (h : ty σ H fun y H1 => td σ H1 fun x H2 => ∃ a o, x = .ref a ∧ DGet H2 a y o ∧ Q (.bl o.isSome) H2) : tDIn ty td σ H Q := h
theorem v_dhasI {a : Addr} {kvs : List (Key × V)} {k : Int} {R : Option V → Prop} (c : Rd H a (.dK kvs)) (h : R (valV kvs (Sum.inl k))) : ∃ b o, V.ref a = .ref b ∧ DGet H b (.int k) o ∧ R o :=
  ⟨a, _, rfl, .inl ⟨kvs, Sum.inl k, c, rfl, rfl⟩, h⟩
/-! ### isinstance against a built-in type -/
theorem kit_int_int : kitB "int" "int" = some true := by decide +kernel
theorem kit_int_bool : kitB "int" "bool" = some false := by decide +kernel
theorem kit_int_str : kitB "int" "str" = some false := by decide +kernel
theorem kit_int_tuple : kitB "int" "tuple" = some false := by decide +kernel
theorem kit_int_list : kitB "int" "list" = some false := by decide +kernel
theorem kit_int_dict : kitB "int" "dict" = some false := by decide +kernel
theorem kit_bool_int : kitB "bool" "int" = some true := by decide +kernel
theorem kit_bool_bool : kitB "bool" "bool" = some true := by decide +kernel
theorem kit_bool_str : kitB "bool" "str" = some false := by decide +kernel
theorem kit_bool_tuple : kitB "bool" "tuple" = some false := by decide +kernel
theorem kit_bool_list : kitB "bool" "list" = some false := by decide +kernel
theorem kit_bool_dict : kitB "bool" "dict" = some false := by decide +kernel
theorem kit_str_int : kitB "str" "int" = some false := by decide +kernel
theorem kit_str_bool : kitB "str" "bool" = some false := by decide +kernel
theorem kit_str_str : kitB "str" "str" = some true := by decide +kernel
theorem kit_str_tuple : kitB "str" "tuple" = some false := by decide +kernel
theorem kit_str_list : kitB "str" "list" = some false := by decide +kernel
theorem kit_str_dict : kitB "str" "dict" = some false := by decide +kernel
theorem kit_tuple_int : kitB "tuple" "int" = some false := by decide +kernel
theorem kit_tuple_bool : kitB "tuple" "bool" = some false := by decide +kernel
theorem kit_tuple_str : kitB "tuple" "str" = some false := by decide +kernel
theorem kit_tuple_tuple : kitB "tuple" "tuple" = some true := by decide +kernel
theorem kit_tuple_list : kitB "tuple" "list" = some false := by decide +kernel
theorem kit_tuple_dict : kitB "tuple" "dict" = some false := by decide +kernel
theorem kit_list_int : kitB "list" "int" = some false := by decide +kernel
theorem kit_list_bool : kitB "list" "bool" = some false := by decide +kernel
theorem kit_list_str : kitB "list" "str" = some false := by decide +kernel
theorem kit_list_tuple : kitB "list" "tuple" = some false := by decide +kernel
theorem kit_list_list : kitB "list" "list" = some true := by decide +kernel
theorem kit_list_dict : kitB "list" "dict" = some false := by decide +kernel
theorem kit_dict_int : kitB "dict" "int" = some false := by decide +kernel
theorem kit_dict_bool : kitB "dict" "bool" = some false := by decide +kernel
theorem kit_dict_str : kitB "dict" "str" = some false := by decide +kernel
theorem kit_dict_tuple : kitB "dict" "tuple" = some false := by decide +kernel
theorem kit_dict_list : kitB "dict" "list" = some false := by decide +kernel
theorem kit_dict_dict : kitB "dict" "dict" = some true := by decide +kernel
theorem kit_NoneType_int : kitB "NoneType" "int" = some false := by decide +kernel
theorem kit_NoneType_bool : kitB "NoneType" "bool" = some false := by decide +kernel
theorem kit_NoneType_str : kitB "NoneType" "str" = some false := by decide +kernel
theorem kit_NoneType_tuple : kitB "NoneType" "tuple" = some false := by decide +kernel
theorem kit_NoneType_list : kitB "NoneType" "list" = some false := by decide +kernel
theorem kit_NoneType_dict : kitB "NoneType" "dict" = some false := by decide +kernel
theorem v_isi {K : PySem.W.Frag} {H : Hp} {Q : VK} {x : V} {a n : String} {b : Bool} (t : TyX K H x (.type a)) (k : kitB a n = some b) (h : Q (.bl b) H) : rIsi K [x, .ty n] H Q :=
  ⟨x, .ty n, .type a, .type n, b, rfl, .ty n, t, kit_ty k, h⟩
/-! ### truth -/
def tTru (K : PySem.W.Frag) (ta : TE) : TT := fun σ H Q => ta σ H fun x H' => ∃ k, TruV K x H' k ∧ Q k H'
theorem pt_tru {X : Cx} {a : Expr} {ta : TE} (ha : PE X a ta) (he : ∀ whole, isTrue a X.env whole = (do let v ← whole; standAt a.pos; holding [v] (truthy v)) := by intro _; rfl) : PT X a (tTru X.K ta) := pt_truth ha he
theorem v_tru {K : PySem.W.Frag} {σ : L2.St} {H : Hp} {ta : TE} {R : Bool → Hp → Prop} (h : ta σ H fun x H' => ∃ k, TruV K x H' k ∧ R k H') : tTru K ta σ H R := h
theorem v_truL {K : PySem.W.Frag} {H : Hp} {p : Addr} {xs : List V} {R : Bool → Prop} (c : SqL K H p xs) (h : R (!xs.isEmpty)) : ∃ k, TruV K (.ref p) H k ∧ R k := ⟨_, .inl ⟨xs, c, rfl⟩, h⟩
theorem v_truT {K : PySem.W.Frag} {H : Hp} {p : Addr} {xs : List V} {R : Bool → Prop} (c : SqT K H p xs) (h : R (!xs.isEmpty)) : ∃ k, TruV K (.ref p) H k ∧ R k := ⟨_, .inr (.inl ⟨xs, c, rfl⟩), h⟩
/-- the greatest, or d where there is none -/
def maxI (d : Int) : List Int → Int
  | [] => d
  | n :: r => r.foldl max n
def minI (d : Int) : List Int → Int
  | [] => d
  | n :: r => r.foldl min n
theorem v_maxD {K : PySem.W.Frag} {H : Hp} {Q : VK} {a : Addr} {ns : List Int} {d : Int} (c : SqT K H a (ns.map V.int)) (h : Q (.int (maxI d ns)) H) : bMaxD K [.ref a] [.int d] H Q :=
  ⟨a, ns, .int d, rfl, rfl, .inl c, fun e => by subst e; exact h, fun n r e => by subst e; exact h⟩
theorem v_maxDL {K : PySem.W.Frag} {H : Hp} {Q : VK} {a : Addr} {ns : List Int} {d : Int} (c : SqL K H a (ns.map V.int)) (h : Q (.int (maxI d ns)) H) : bMaxD K [.ref a] [.int d] H Q :=
  ⟨a, ns, .int d, rfl, rfl, .inr c, fun e => by subst e; exact h, fun n r e => by subst e; exact h⟩
theorem v_minD {K : PySem.W.Frag} {H : Hp} {Q : VK} {a : Addr} {ns : List Int} {d : Int} (c : SqT K H a (ns.map V.int)) (h : Q (.int (minI d ns)) H) : bMinD K [.ref a] [.int d] H Q :=
  ⟨a, ns, .int d, rfl, rfl, .inl c, fun e => by subst e; exact h, fun n r e => by subst e; exact h⟩
theorem foldl_max_spec : ∀ (r : List Int) (n : Int), n ≤ r.foldl max n ∧ (∀ s ∈ r, s ≤ r.foldl max n) ∧ (r.foldl max n = n ∨ r.foldl max n ∈ r)
  | [], n => ⟨Int.le_refl _, fun _ h => (by cases h), .inl rfl⟩
  | x :: r, n => by
    obtain ⟨h1, h2, h3⟩ := foldl_max_spec r (max n x)
    refine ⟨Int.le_trans (Int.le_max_left n x) h1, fun s hs => ?_, ?_⟩
    · rcases List.mem_cons.mp hs with e | hs
      · subst e
        exact Int.le_trans (Int.le_max_right n s) h1
      · exact h2 s hs
    · show List.foldl max (max n x) r = n ∨ List.foldl max (max n x) r ∈ x :: r
      rcases h3 with e | h3
      · rw [e]
        by_cases c : n ≤ x
        · exact .inr (by rw [Int.max_eq_right c]; exact List.mem_cons_self)
        · exact .inl (Int.max_eq_left (by omega))
      · exact .inr (List.mem_cons_of_mem _ h3)
theorem maxI_spec (d : Int) (ns : List Int) : (∀ s ∈ ns, s ≤ maxI d ns) ∧ (maxI d ns ∈ ns ∨ ns = [] ∧ maxI d ns = d) := by
  cases ns with
  | nil => exact ⟨fun _ h => (by cases h), .inr ⟨rfl, rfl⟩⟩
  | cons n r =>
    obtain ⟨h1, h2, h3⟩ := foldl_max_spec r n
    refine ⟨fun s hs => ?_, .inl ?_⟩
    · rcases List.mem_cons.mp hs with e | hs
      · subst e
        exact h1
      · exact h2 s hs
    · rcases h3 with e | h3
      · show List.foldl max n r ∈ n :: r
        rw [e]
        exact List.mem_cons_self
      · exact List.mem_cons_of_mem _ h3
theorem v_yes {σ : L2.St} {H : Hp} {R : Bool → Hp → Prop} (h : R true H) : tYes σ H R := h
/-! ### places -/
theorem ixN_ok {n : Nat} {i : Int} (h0 : 0 ≤ i) (h1 : i < n) : ixN n i = some i.toNat := by
  unfold ixN
  rw [if_pos h0, if_pos h1]
theorem ixN_neg {n : Nat} {i : Int} (h0 : i < 0) (h1 : -(n : Int) ≤ i) : ixN n i = some (i + n).toNat := by
  unfold ixN
  rw [if_neg (by omega), if_pos h1]
theorem at_get {α : Type} {xs : List α} {i : Int} {v : α} (h0 : 0 ≤ i) (h : xs[i.toNat]? = some v) : atI xs i = some v := by
  have hl := (List.getElem?_eq_some_iff.mp h).1
  unfold atI
  rw [ixN_ok h0 (by omega)]
  exact h
theorem at_ints {ns : List Int} {k : Int} (h0 : 0 ≤ k) (h1 : k < (ns.map V.int).length) : atI (ns.map V.int) k = some (V.int (ns.getD k.toNat 0)) := by
  rw [List.length_map] at h1
  refine at_get h0 ?_
  rw [List.getElem?_map, List.getD_eq_getElem?_getD, List.getElem?_eq_getElem (by omega : k.toNat < ns.length)]
  rfl
theorem at_last {α : Type} {xs : List α} {v : α} : atI (xs ++ [v]) (-1) = some v := by
  unfold atI
  rw [ixN_neg (by omega) (by rw [List.length_append]; simp; omega)]
  show (xs ++ [v])[((-1 : Int) + ((xs ++ [v]).length : Nat)).toNat]? = some v
  have e : ((-1 : Int) + ((xs ++ [v]).length : Nat)).toNat = xs.length := by rw [List.length_append]; simp; omega
  rw [e]
  simp
/-! ### loops -/
/-- a loop over J from here -/
def Loop (J : It) (g : TG) (tb : TS) (D : Ends) (σ : L2.St) (H1 : Hp) : Prop := ∃ W : Nat → Nat → L2.St → Hp → Prop, (∃ m, W 0 m σ H1) ∧ ∀ i m σ H, W i m σ H →
  (J.stop i H ∧ D.nx σ H) ∨ (J.go i H ∧ ∃ N : L2.St → Hp → Prop, (∀ σ' H', N σ' H' → ∃ m', m' < m ∧ W (i + 1) m' σ' H') ∧ ∀ x H', J.yld i H x H' → g x σ H' fun σ2 H2 => tb { D with nx := N, ct := N, bk := D.nx } σ2 H2)
theorem v_for {wi : TI} {tb : TS} (h : wi σ H fun J H1 => Loop J g tb D σ H1) : tFor wi g tb D σ H := h
theorem v_iRng1 {R : It → Hp → Prop} (h : tl σ H fun vs H1 => ∃ j : Int, vs = [.int j] ∧ -(2 ^ 62) ≤ j ∧ j < 2 ^ 62 ∧ R (Itr 0 j.toNat) H1) : iRng1 tl σ H R := h
theorem v_rng1 {j : Int} {R : Int → Prop} (c : -(2 ^ 62) ≤ j ∧ j < 2 ^ 62) (h : R j) : ∃ k : Int, [V.int j] = [V.int k] ∧ -(2 ^ 62) ≤ k ∧ k < 2 ^ 62 ∧ R k := ⟨j, rfl, c.1, c.2, h⟩
theorem v_iRng2 {R : It → Hp → Prop} (h : tl σ H fun vs H1 => ∃ i j : Int, vs = [.int i, .int j] ∧ (-(2 ^ 62) ≤ i ∧ i < 2 ^ 62 ∧ -(2 ^ 62) ≤ j ∧ j < 2 ^ 62) ∧ R (Itr i (j - i).toNat) H1) : iRng2 tl σ H R := h
theorem v_rng2 {a b : Int} {R : Int → Int → Prop} (c : -(2 ^ 62) ≤ a ∧ a < 2 ^ 62 ∧ -(2 ^ 62) ≤ b ∧ b < 2 ^ 62) (h : R a b) :
    ∃ i j : Int, [V.int a, V.int b] = [V.int i, V.int j] ∧ (-(2 ^ 62) ≤ i ∧ i < 2 ^ 62 ∧ -(2 ^ 62) ≤ j ∧ j < 2 ^ 62) ∧ R i j := ⟨a, b, rfl, c, h⟩
theorem v_iList {R : It → Hp → Prop} (h : te σ H fun x H1 => ∃ a, x = .ref a ∧ (∃ xs, SqL K H1 a xs) ∧ R (Itl K a) H1) : iList K te σ H R := h
theorem v_iTup {R : It → Hp → Prop} (h : te σ H fun x H1 => ∃ a, x = .ref a ∧ (∃ xs, SqT K H1 a xs) ∧ R (Itt K a) H1) : iTup K te σ H R := h
theorem v_isqL {a : Addr} {xs : List V} {R : Addr → Prop} (c : SqL K H a xs) (h : R a) : ∃ b, V.ref a = .ref b ∧ (∃ xs, SqL K H b xs) ∧ R b := ⟨a, rfl, ⟨xs, c⟩, h⟩
theorem v_isqT {a : Addr} {xs : List V} {R : Addr → Prop} (c : SqT K H a xs) (h : R a) : ∃ b, V.ref a = .ref b ∧ (∃ xs, SqT K H b xs) ∧ R b := ⟨a, rfl, ⟨xs, c⟩, h⟩
theorem loop_range {lo : Int} {n : Nat} {tb : TS} (Pv : Nat → L2.St → Hp → Prop) (h0 : Pv 0 σ H)
    (hs : ∀ i σ H, i < n → Pv i σ H → g (.int (lo + i)) σ H fun σ2 H2 => tb { D with nx := Pv (i + 1), ct := Pv (i + 1), bk := D.nx } σ2 H2) (hd : ∀ σ H, Pv n σ H → D.nx σ H) : Loop (Itr lo n) g tb D σ H := for_range Pv h0 hs hd
theorem loop_list {a : Addr} {xs : List V} {tb : TS} (Pv : Nat → L2.St → Hp → Prop) (h0 : Pv 0 σ H) (hl : ∀ i σ H, i ≤ xs.length → Pv i σ H → SqL K H a xs)
    (hs : ∀ i x σ H, xs[i]? = some x → Pv i σ H → g x σ H fun σ2 H2 => tb { D with nx := Pv (i + 1), ct := Pv (i + 1), bk := D.nx } σ2 H2) (hd : ∀ σ H, Pv xs.length σ H → D.nx σ H) : Loop (Itl K a) g tb D σ H := for_list Pv h0 hl hs hd
theorem loop_tup {a : Addr} {xs : List V} {tb : TS} (Pv : Nat → L2.St → Hp → Prop) (h0 : Pv 0 σ H) (hl : ∀ i σ H, i ≤ xs.length → Pv i σ H → SqT K H a xs)
    (hs : ∀ i x σ H, xs[i]? = some x → Pv i σ H → g x σ H fun σ2 H2 => tb { D with nx := Pv (i + 1), ct := Pv (i + 1), bk := D.nx } σ2 H2) (hd : ∀ σ H, Pv xs.length σ H → D.nx σ H) : Loop (Itt K a) g tb D σ H := for_tup Pv h0 hl hs hd
theorem loop_it {J : It} {n : Nat} {G : Hp → Prop} {Y : Nat → Hp → V → Hp → Prop} {tb : TS} (w : Walk J n G Y) (Pv : Nat → L2.St → Hp → Prop) (h0 : Pv 0 σ H) (hG : ∀ i σ H, i ≤ n → Pv i σ H → G H)
    (hs : ∀ i x σ H H', i < n → Pv i σ H → Y i H x H' → g x σ H' fun σ2 H2 => tb { D with nx := Pv (i + 1), ct := Pv (i + 1), bk := D.nx } σ2 H2) (hd : ∀ σ H, Pv n σ H → D.nx σ H) : Loop J g tb D σ H := for_it w Pv h0 hG hs hd
theorem v_iKeys {R : It → Hp → Prop} (h : te σ H fun x H1 => ∃ d o, x = .ref d ∧ ((∃ kvs, H1 d = some (.frz o (.dK kvs)) ∧ R (Itk d o kvs) H1) ∨ ∃ kvs, H1 d = some (.frz o (.dT kvs)) ∧ R (Itkt d o kvs) H1)) : iKeys te σ H R := h
theorem loop_while {c : TT} {tb : TS} (Pv : Nat → L2.St → Hp → Prop) (m0 : Nat) (h0 : Pv m0 σ H)
    (hs : ∀ m σ H, Pv m σ H → c σ H fun b H1 => if b = true then ∃ N : L2.St → Hp → Prop, (∀ σ' H', N σ' H' → ∃ m', m' < m ∧ Pv m' σ' H') ∧ tb { D with nx := N, ct := N, bk := D.nx } σ H1 else D.nx σ H1) : tWhile c tb D σ H :=
  ⟨Pv, ⟨m0, h0⟩, hs⟩
/-- a comprehension's loop -/
def LcLoop (J : It) (g : TG) (tt : TT) (te : TE) (vs : List Nat) (σ : L2.St) (D : Addr) (H1 : Hp) (Qd : Hp → Prop) : Prop := ∃ W : Nat → Nat → Hp → Prop, (∃ m, W 0 m (upd H1 D (.lst []))) ∧ ∀ i m H, W i m H →
  (J.stop i H ∧ Qd H) ∨ (J.go i H ∧ ∃ Nx : Hp → Prop, (∀ H', Nx H' → ∃ m', m' < m ∧ W (i + 1) m' H') ∧ ∀ x H', J.yld i H x H' → g x (wipe σ vs) H' fun σ2 H2 => wipe σ2 vs = wipe σ vs ∧ tt σ2 H2 fun b H3 =>
    if b = true then te σ2 H3 fun y H4 => ∃ acc, H4 D = some (.lst acc) ∧ acc.length < sizeLine ∧ Nx (upd H4 D (.lst (acc ++ [y]))) else Nx H3)
theorem v_lc {wi : TI} {tt : TT} {vs : List Nat} (h : wi σ H fun J H1 => ∀ D, H1 D = none → LcLoop J g tt te vs σ D H1 (Q (.ref D))) : tLc wi g tt te vs σ H Q := h
theorem lc_l {a D : Addr} {xs : List V} {tt : TT} {vs : List Nat} {H1 : Hp} {Qd : Hp → Prop} (Pv : Nat → Hp → Prop) (h0 : Pv 0 (upd H1 D (.lst []))) (hl : ∀ i H, i ≤ xs.length → Pv i H → SqL K H a xs)
    (hs : ∀ i x H, xs[i]? = some x → Pv i H → g x (wipe σ vs) H fun σ2 H2 => wipe σ2 vs = wipe σ vs ∧ tt σ2 H2 fun b H3 =>
      if b = true then te σ2 H3 fun y H4 => ∃ acc, H4 D = some (.lst acc) ∧ acc.length < sizeLine ∧ Pv (i + 1) (upd H4 D (.lst (acc ++ [y]))) else Pv (i + 1) H3) (hd : ∀ H, Pv xs.length H → Qd H) : LcLoop (Itl K a) g tt te vs σ D H1 Qd := lc_list Pv h0 hl hs hd
theorem lc_t {a D : Addr} {xs : List V} {tt : TT} {vs : List Nat} {H1 : Hp} {Qd : Hp → Prop} (Pv : Nat → Hp → Prop) (h0 : Pv 0 (upd H1 D (.lst []))) (hl : ∀ i H, i ≤ xs.length → Pv i H → SqT K H a xs)
    (hs : ∀ i x H, xs[i]? = some x → Pv i H → g x (wipe σ vs) H fun σ2 H2 => wipe σ2 vs = wipe σ vs ∧ tt σ2 H2 fun b H3 =>
      if b = true then te σ2 H3 fun y H4 => ∃ acc, H4 D = some (.lst acc) ∧ acc.length < sizeLine ∧ Pv (i + 1) (upd H4 D (.lst (acc ++ [y]))) else Pv (i + 1) H3) (hd : ∀ H, Pv xs.length H → Qd H) : LcLoop (Itt K a) g tt te vs σ D H1 Qd := by
  refine ⟨fun i m H => m = xs.length - i ∧ i ≤ xs.length ∧ Pv i H, ⟨xs.length, by simp, Nat.zero_le _, h0⟩, ?_⟩
  rintro i m H ⟨rfl, hi, p⟩
  have q := hl i H hi p
  by_cases hlt : i < xs.length
  · refine .inr ⟨⟨xs, xs[i], q, by simp [hlt]⟩, Pv (i + 1), fun H' p' => ⟨xs.length - (i + 1), by omega, rfl, hlt, p'⟩, fun x H' y => ?_⟩
    obtain ⟨e, y⟩ := y
    subst e
    exact hs i x _ (y xs q) p
  · have e : i = xs.length := by omega
    subst e
    exact .inl ⟨⟨xs, q, Nat.le_refl _⟩, hd H p⟩
end
/-! ### the rules with the written part named -/
section
variable {X : Cx} {K : PySem.W.Frag} {e o : Expr} {es : List Expr} {te to ta : TE} {tl : TA} {pos apos cpos : Pos} {name : Str} {id T : String} {tg : Expr}
theorem k_len (h : X.K = K) : CallR X (.builtin "len") (bLen K) := by subst h; exact w_len
theorem k_tup (h : X.K = K) : CallR X (.type "tuple") (bTup K) := by subst h; exact w_tup
theorem k_list (h : X.K = K) : CallR X (.type "list") (bList K) := by subst h; exact w_list
theorem k_ixL (h : X.K = K) : IxR X (rIxL K) := by subst h; exact ix_list
theorem k_ixT (h : X.K = K) : IxR X (rIxT K) := by subst h; exact ix_tup
theorem k_slL (h : X.K = K) : SlR X (rSlL K) := by subst h; exact sl_list
theorem k_slT (h : X.K = K) : SlR X (rSlA K) := by subst h; exact sl_tupA
theorem k_catT (h : X.K = K) : OpR X (binaryOp .Add) (rCatA K) := by subst h; exact op_catA
theorem k_isi (h : X.K = K) : CallR X (.builtin "isinstance") (rIsi K) := by subst h; exact call_isi
theorem k_sum (h : X.K = K) (hc : X.calm = true) : CallR X (.builtin "sum") (rSum K) := by subst h; exact cr_sum hc
theorem k_all (h : X.K = K) (hc : X.calm = true) : CallR X (.builtin "all") (rAll K) := by subst h; exact cr_all hc
theorem k_any (h : X.K = K) (hc : X.calm = true) : CallR X (.builtin "any") (rAny K) := by subst h; exact cr_any hc
theorem k_max (h : X.K = K) (hc : X.calm = true) : CallR X (.builtin "max") (rMax K) := by subst h; exact cr_max hc
theorem k_min (h : X.K = K) (hc : X.calm = true) : CallR X (.builtin "min") (rMin K) := by subst h; exact cr_min hc
theorem k_maxD (h : X.K = K) (hc : X.calm = true) (hu : X.A.units + 1 < cLine) : CallRK X (.builtin "max") [Str.ofString "default"] (bMaxD K) := by subst h; exact w_maxD hc hu
theorem k_minD (h : X.K = K) (hc : X.calm = true) (hu : X.A.units + 1 < cLine) : CallRK X (.builtin "min") [Str.ofString "default"] (bMinD K) := by subst h; exact w_minD hc hu
theorem k_iL (h : X.K = K) (he : PE X e te) : PI X tg e (iList K te) := by subst h; exact pi_list he
theorem k_iT (h : X.K = K) (he : PE X e te) : PI X tg e (iTup K te) := by subst h; exact pi_tup he
theorem k_gT {k n : Nat} {t : TGs} (h : X.K = K) (hc : X.calm = true) (he : PGs X es t) (hn : (assignEach es X.env).length = n := by rfl) (hst : (assignEach es X.env).findIdx? (·.1) = none := by rfl) : PG X (.Tuple es k pos) (gTup K n t) := by subst h; exact pg_tup hc he hn hst
theorem k_revT {k : Nat} {p1 p2 p3 : Pos} (h : X.K = K) (he : PE X e te) : PE X (.Subscript e (.Slice none none (some (.UnaryOp .USub (.Constant (.int 1) k p1) p2)) p3) pos) (tRevT K te) := by subst h; exact pe_revT he
theorem k_tru (h : X.K = K) (ha : PE X e te) (he : ∀ whole, isTrue e X.env whole = (do let v ← whole; standAt e.pos; holding [v] (truthy v)) := by intro _; rfl) : PT X e (tTru K te) := by subst h; exact pt_tru ha he
theorem k_fld {f : Str} (h : X.K = K) (he : PE X e te) (hb : attributeBase e f X.env (eval e X.env) = eval e X.env := by rfl) : PE X (.Attribute e f pos) (tFld K te f) := by subst h; exact pe_fld he hb
end
end RC
namespace RC.K45
variable {L : List Nat}
def Asc (L : List Nat) : Prop := L.Pairwise (· < ·)
def wt (L w : List Nat) : Nat := w.foldl (fun a c => a * L.length + L.idxOf c) 0
def vl (L w : List Nat) : Nat := wt L w * L.length ^ (60 - w.length)
def en (L w : List Nat) : Nat := (wt L w + 1) * L.length ^ (60 - w.length)
def In (L w : List Nat) : Prop := ∀ c ∈ w, c ∈ L
theorem wt_snoc (w : List Nat) (c : Nat) : wt L (w ++ [c]) = wt L w * L.length + L.idxOf c := by
  unfold wt
  rw [List.foldl_append]
  rfl
theorem pw (b : Nat) {n : Nat} (h : n < 60) : b ^ (60 - n) = b * b ^ (60 - (n + 1)) := by
  rw [show 60 - n = (60 - (n + 1)) + 1 by omega, Nat.pow_succ, Nat.mul_comm]
theorem vl_snoc {w : List Nat} {c : Nat} (h : w.length < 60) : vl L (w ++ [c]) = vl L w + L.idxOf c * L.length ^ (60 - (w.length + 1)) := by
  unfold vl
  rw [wt_snoc, List.length_append, List.length_singleton, pw L.length h, Nat.add_mul, Nat.mul_assoc]
theorem en_snoc {w : List Nat} {c : Nat} (h : w.length < 60) : en L (w ++ [c]) = vl L (w ++ [c]) + L.length ^ (60 - (w.length + 1)) := by
  unfold en vl
  rw [List.length_append, List.length_singleton, Nat.add_mul, Nat.one_mul]
theorem en_vl (w : List Nat) : en L w = vl L w + L.length ^ (60 - w.length) := by
  unfold en vl
  rw [Nat.add_mul, Nat.one_mul]
theorem idx_lt {c : Nat} (h : c ∈ L) : L.idxOf c < L.length := List.idxOf_lt_length_of_mem h
theorem en_snoc_le {w : List Nat} {c : Nat} (h : w.length < 60) (m : c ∈ L) : en L (w ++ [c]) ≤ en L w := by
  rw [en_vl (w ++ [c]), vl_snoc h, en_vl w, pw L.length h, List.length_append, List.length_singleton]
  have := Nat.mul_le_mul_right (L.length ^ (60 - (w.length + 1))) (Nat.succ_le_of_lt (idx_lt m))
  rw [Nat.succ_mul] at this
  omega
theorem en_snoc_max {w : List Nat} {c : Nat} (h : w.length < 60) (m : L.idxOf c + 1 = L.length) : en L (w ++ [c]) = en L w := by
  rw [en_vl (w ++ [c]), vl_snoc h, en_vl w, pw L.length h, List.length_append, List.length_singleton]
  have e : L.length * L.length ^ (60 - (w.length + 1)) = (L.idxOf c + 1) * L.length ^ (60 - (w.length + 1)) := by rw [m]
  rw [e, Nat.succ_mul]
  omega
theorem vl_le_app {w : List Nat} : ∀ {r : List Nat}, (w ++ r).length ≤ 60 → vl L w ≤ vl L (w ++ r) := by
  intro r
  induction r generalizing w with
  | nil => intro _; rw [List.append_nil]; exact Nat.le_refl _
  | cons c r ih =>
    intro h
    rw [show w ++ c :: r = (w ++ [c]) ++ r by simp] at h ⊢
    have hl : w.length < 60 := by simp at h; omega
    exact Nat.le_trans (by rw [vl_snoc hl]; exact Nat.le_add_right _ _) (ih h)
theorem en_app_le {w : List Nat} : ∀ {r : List Nat}, (w ++ r).length ≤ 60 → In L r → en L (w ++ r) ≤ en L w := by
  intro r
  induction r generalizing w with
  | nil => intro _ _; rw [List.append_nil]; exact Nat.le_refl _
  | cons c r ih =>
    intro h m
    rw [show w ++ c :: r = (w ++ [c]) ++ r by simp] at h ⊢
    have hl : w.length < 60 := by simp at h; omega
    exact Nat.le_trans (ih h fun x hx => m x (List.mem_cons_of_mem _ hx)) (en_snoc_le hl (m c List.mem_cons_self))
theorem en_top {w : List Nat} (h : w.length ≤ 60) (m : In L w) : en L w ≤ L.length ^ 60 := by
  have := en_app_le (L := L) (w := []) (r := w) h m
  have e : en L [] = L.length ^ 60 := by unfold en wt; simp
  rw [e] at this
  exact this
theorem idx_of (hL : Asc L) {i c : Nat} (h : L[i]? = some c) : L.idxOf c = i := by
  have hn : L.Nodup := hL.imp fun h e => by omega
  obtain ⟨hi, e⟩ := List.getElem?_eq_some_iff.mp h
  rw [← e]
  exact hn.idxOf_getElem i hi
theorem get_idx {c : Nat} (m : c ∈ L) : L[L.idxOf c]? = some c := by
  rw [List.getElem?_eq_getElem (idx_lt m)]
  simp
theorem idx_mono (hL : Asc L) {x y : Nat} (hx : x ∈ L) (hy : y ∈ L) (h : x < y) : L.idxOf x < L.idxOf y := by
  obtain ⟨i1, e1⟩ := List.getElem?_eq_some_iff.mp (get_idx hx)
  obtain ⟨i2, e2⟩ := List.getElem?_eq_some_iff.mp (get_idx hy)
  rcases Nat.lt_trichotomy (L.idxOf x) (L.idxOf y) with g | g | g
  · exact g
  · exfalso
    have : L[L.idxOf x]? = L[L.idxOf y]? := by rw [g]
    rw [get_idx hx, get_idx hy] at this
    cases this
    omega
  · have := List.pairwise_iff_getElem.mp hL _ _ i2 i1 g
    omega
/-! ### order -/
theorem lt_split : ∀ {a b : List Nat}, a < b → ¬ a <+: b → ∃ c x y r s, a = c ++ x :: r ∧ b = c ++ y :: s ∧ x < y
  | [], b, _, h => absurd (List.nil_prefix) h
  | a :: as, [], h, _ => absurd h (List.not_lt_nil _)
  | a :: as, b :: bs, h, n => by
    rcases List.cons_lt_cons_iff.mp h with g | ⟨rfl, g⟩
    · exact ⟨[], a, b, as, bs, rfl, rfl, g⟩
    · obtain ⟨c, x, y, r, s, e1, e2, l⟩ := lt_split g fun p => n (List.cons_prefix_cons.mpr ⟨rfl, p⟩)
      exact ⟨a :: c, x, y, r, s, by rw [e1]; rfl, by rw [e2]; rfl, l⟩
theorem lt_of_split : ∀ (c : List Nat) {x y : Nat} {r s : List Nat}, x < y → c ++ x :: r < c ++ y :: s
  | [], _, _, _, _, h => List.cons_lt_cons_iff.mpr (.inl h)
  | _ :: c, _, _, _, _, h => List.cons_lt_cons_iff.mpr (.inr ⟨rfl, lt_of_split c h⟩)
theorem not_pre (c : List Nat) {x y : Nat} {r s : List Nat} (h : x < y) : ¬ (c ++ x :: r) <+: (c ++ y :: s) := fun p => by
  rw [List.prefix_append_right_inj] at p
  have := (List.cons_prefix_cons.mp p).1
  omega
theorem en_le_vl (hL : Asc L) {a b : List Nat} (h : a < b) (n : ¬ a <+: b) (ha : a.length ≤ 60) (hb : b.length ≤ 60) (ma : In L a) (mb : In L b) : en L a ≤ vl L b := by
  obtain ⟨c, x, y, r, s, rfl, rfl, l⟩ := lt_split h n
  have mx : x ∈ L := ma x (by simp)
  have my : y ∈ L := mb y (by simp)
  have hc : c.length < 60 := by simp at ha; omega
  rw [show c ++ x :: r = (c ++ [x]) ++ r by simp] at ha ma ⊢
  rw [show c ++ y :: s = (c ++ [y]) ++ s by simp] at hb ⊢
  refine Nat.le_trans (en_app_le ha fun z hz => ma z (by simp [hz])) (Nat.le_trans ?_ (vl_le_app hb))
  rw [en_snoc hc, vl_snoc hc, vl_snoc hc]
  have := Nat.mul_le_mul_right (L.length ^ (60 - (c.length + 1))) (Nat.succ_le_of_lt (idx_mono hL mx my l))
  rw [Nat.succ_mul] at this
  omega
/-! ### one number, one text -/
theorem wt_inj (hL : Asc L) : ∀ (n : Nat) {a b : List Nat}, a.length = n → b.length = n → In L a → In L b → wt L a = wt L b → a = b
  | 0, a, b, ha, hb, _, _, _ => by rw [List.length_eq_zero_iff.mp ha, List.length_eq_zero_iff.mp hb]
  | n + 1, a, b, ha, hb, ma, mb, e => by
    have na : a ≠ [] := fun z => by rw [z] at ha; cases ha
    have nb : b ≠ [] := fun z => by rw [z] at hb; cases hb
    rw [← List.dropLast_concat_getLast na, ← List.dropLast_concat_getLast nb, wt_snoc, wt_snoc] at e
    have xa := idx_lt (ma _ (List.getLast_mem na))
    have xb := idx_lt (mb _ (List.getLast_mem nb))
    have e1 := congrArg (· / L.length) e
    have e2 := congrArg (· % L.length) e
    simp only [Nat.mul_comm (wt L _) L.length, Nat.mul_add_div (by omega : L.length > 0), Nat.div_eq_of_lt xa, Nat.div_eq_of_lt xb, Nat.add_zero, Nat.mul_add_mod, Nat.mod_eq_of_lt xa, Nat.mod_eq_of_lt xb] at e1 e2
    have r1 := wt_inj hL n (by rw [List.length_dropLast]; omega) (by rw [List.length_dropLast]; omega) (fun c hc => ma c (List.dropLast_subset _ hc)) (fun c hc => mb c (List.dropLast_subset _ hc)) e1
    have r2 : a.getLast na = b.getLast nb := by
      have g1 := get_idx (ma _ (List.getLast_mem na))
      rw [e2, get_idx (mb _ (List.getLast_mem nb))] at g1
      exact (Option.some.inj g1).symm
    rw [← List.dropLast_concat_getLast na, ← List.dropLast_concat_getLast nb, r1, r2]
theorem wt_zeros {z : Nat} (hz : L.idxOf z = 0) (w : List Nat) : ∀ k, wt L (w ++ List.replicate k z) = wt L w * L.length ^ k
  | 0 => by simp
  | k + 1 => by
    rw [List.replicate_succ', ← List.append_assoc, wt_snoc, wt_zeros hz w k, hz, Nat.add_zero, Nat.mul_assoc, Nat.pow_succ]
theorem same_start (hL : Asc L) {z : Nat} (h0 : L[0]? = some z) {p w : List Nat} (hp : p.length ≤ 60) (hw : w.length ≤ 60) (mp : In L p) (mw : In L w) (e : vl L p = vl L w)
    (hn : p = [] ∨ ∃ q c, p = q ++ [c] ∧ L.idxOf c ≠ 0) : ∃ k, w = p ++ List.replicate k z := by
  have iz := idx_of hL h0
  have mz : z ∈ L := List.mem_of_getElem? h0
  have e' : wt L (p ++ List.replicate (60 - p.length) z) = wt L (w ++ List.replicate (60 - w.length) z) := by
    rw [wt_zeros iz, wt_zeros iz]
    exact e
  have inz : ∀ (u : List Nat) k, In L u → In L (u ++ List.replicate k z) := fun u k mu c hc => by
    rcases List.mem_append.mp hc with hc | hc
    · exact mu c hc
    · rw [List.eq_of_mem_replicate hc]; exact mz
  have r := wt_inj hL 60 (by simp; omega) (by simp; omega) (inz _ _ mp) (inz _ _ mw) e'
  by_cases hl : p.length ≤ w.length
  · refine ⟨w.length - p.length, ?_⟩
    have := congrArg (List.take w.length) r
    rw [List.take_left' rfl, List.take_append, List.take_of_length_le hl, List.take_replicate, Nat.min_eq_left (by omega)] at this
    exact this.symm
  · exfalso
    have := congrArg (List.take p.length) r
    rw [List.take_left' rfl, List.take_append, List.take_of_length_le (by omega : w.length ≤ p.length), List.take_replicate, Nat.min_eq_left (by omega)] at this
    rcases hn with e0 | ⟨q, c, e0, ne⟩
    · rw [e0] at hl; exact hl (Nat.zero_le _)
    · rw [show p.length - w.length = (p.length - w.length - 1) + 1 by omega, List.replicate_succ', ← List.append_assoc] at this
      have : c = z := by
        have := congrArg List.getLast? this
        rw [e0, List.getLast?_concat, List.getLast?_concat] at this
        exact Option.some.inj this
      rw [this] at ne
      exact ne iz
end RC.K45
namespace RC.K45
variable {L : List Nat}
def last1 (w : List Nat) : List Nat := w.drop (w.length - 1)
def stp (L w : List Nat) : List Nat := if last1 w = last1 L then w.dropLast else w
def its (L : List Nat) : Nat → List Nat → List Nat
  | 0, w => w
  | n + 1, w => stp L (its L n w)
def bump (L u : List Nat) : List Nat := u.dropLast ++ (L[L.idxOf (u.getLastD 0) + 1]?).toList
def nxt (L w : List Nat) : Option (List Nat) := if its L w.length w = [] then none else some (bump L (its L w.length w))
def Acc (L p w : List Nat) : Prop := w.length ≤ 60 ∧ w.take p.length = p ∧ ∀ s ∈ w.drop p.length, [s] = L.take 1
def Lv (L : List Nat) : Option (List Nat) → List (List Nat) → Prop
  | s, [] => s = none
  | none, _ :: _ => False
  | some p, w :: r => Acc L p w ∧ Lv L (nxt L w) r
def Pf (ws : List (List Nat)) : Prop := ∀ i a b, ws[i]? = some a → ws[i + 1]? = some b → a < b ∧ ¬ a <+: b
def Cm (L : List Nat) (ws : List (List Nat)) : Prop := ws ≠ [] ∧ (∀ w ∈ ws, w.length ≤ 60 ∧ In L w) ∧ Pf ws ∧
  ∀ mx, (∃ w ∈ ws, w.length = mx) → (∀ w ∈ ws, w.length ≤ mx) → (ws.map fun w => L.length ^ (mx - w.length)).sum = L.length ^ mx
theorem last1_snoc (w : List Nat) (c : Nat) : last1 (w ++ [c]) = [c] := by
  unfold last1
  rw [List.length_append, List.length_singleton, Nat.add_sub_cancel, List.drop_left' rfl]
theorem snoc_cases (w : List Nat) : w = [] ∨ ∃ u c, w = u ++ [c] := by
  by_cases h : w = []
  · exact .inl h
  · exact .inr ⟨_, _, (List.dropLast_concat_getLast h).symm⟩
theorem stp_nil : stp L [] = [] := by
  unfold stp
  split <;> rfl
theorem stp_snoc (w : List Nat) (c : Nat) : stp L (w ++ [c]) = if [c] = last1 L then w else w ++ [c] := by
  unfold stp
  rw [last1_snoc, List.dropLast_concat]
theorem top_idx (hL : Asc L) {c : Nat} (h : [c] = last1 L) : L.idxOf c + 1 = L.length ∧ c ∈ L := by
  rcases snoc_cases L with e | ⟨u, d, e⟩
  · rw [e] at h
    cases h
  · subst e
    rw [last1_snoc] at h
    cases h
    have := idx_of hL (i := u.length) (c := c) (by simp)
    exact ⟨by rw [this]; simp, by simp⟩
theorem not_top (hL : Asc L) {c : Nat} (m : c ∈ L) (h : ¬ [c] = last1 L) : L.idxOf c + 1 < L.length := by
  have h1 := idx_lt m
  refine Nat.lt_of_le_of_ne (by omega) fun e => h ?_
  rcases snoc_cases L with e2 | ⟨u, d, e2⟩
  · rw [e2] at m
    cases m
  · have g := get_idx m
    rw [e2, last1_snoc]
    rw [e2] at g e
    rw [List.length_append, List.length_singleton] at e
    rw [show (u ++ [d]).idxOf c = u.length by omega, List.getElem?_append_right (Nat.le_refl _), Nat.sub_self] at g
    cases g
    rfl
/-- the strip keeps the end, leaves a beginning, and the rest is the last letter -/
theorem its_spec (hL : Asc L) {w : List Nat} (hw : w.length ≤ 60) (m : In L w) : ∀ k, en L (its L k w) = en L w ∧ (∃ r, w = its L k w ++ r ∧ ∀ c ∈ r, [c] = last1 L) ∧
    (its L k w = [] ∨ (∃ u c, its L k w = u ++ [c] ∧ ¬ [c] = last1 L) ∨ (its L k w).length + k ≤ w.length)
  | 0 => ⟨rfl, ⟨[], (List.append_nil _).symm, fun _ h => by cases h⟩, .inr (.inr (Nat.le_refl _))⟩
  | k + 1 => by
    obtain ⟨h1, ⟨r, h2, h3⟩, h4⟩ := its_spec hL hw m k
    show en L (stp L (its L k w)) = en L w ∧ (∃ r, w = stp L (its L k w) ++ r ∧ ∀ c ∈ r, [c] = last1 L) ∧ (stp L (its L k w) = [] ∨ (∃ u c, stp L (its L k w) = u ++ [c] ∧ ¬ [c] = last1 L) ∨ (stp L (its L k w)).length + (k + 1) ≤ w.length)
    rcases snoc_cases (its L k w) with e | ⟨u, c, e⟩
    · rw [e, stp_nil]
      rw [e] at h1 h2
      exact ⟨h1, ⟨r, h2, h3⟩, .inl rfl⟩
    · rw [e, stp_snoc]
      rw [e] at h1 h2 h4
      by_cases ht : [c] = last1 L
      · rw [if_pos ht]
        have hl : u.length < 60 := by rw [h2] at hw; simp at hw; omega
        refine ⟨by rw [← h1, en_snoc_max hl (top_idx hL ht).1], ⟨c :: r, by rw [h2]; simp, fun x hx => ?_⟩, ?_⟩
        · rcases List.mem_cons.mp hx with rfl | hx
          · exact ht
          · exact h3 x hx
        · rcases h4 with z | ⟨u', c', z, n⟩ | z
          · exact absurd z (by simp)
          · have := List.append_inj' z rfl
            have hc := this.2
            cases hc
            exact absurd ht n
          · rw [List.length_append, List.length_singleton] at z
            exact .inr (.inr (by omega))
      · rw [if_neg ht]
        exact ⟨h1, ⟨r, h2, h3⟩, .inr (.inl ⟨u, c, rfl, ht⟩)⟩
theorem its_end (hL : Asc L) {w : List Nat} (hw : w.length ≤ 60) (m : In L w) : its L w.length w = [] ∧ en L w = L.length ^ 60 ∨
    ∃ u c r, w = (u ++ [c]) ++ r ∧ its L w.length w = u ++ [c] ∧ ¬ [c] = last1 L ∧ en L (u ++ [c]) = en L w ∧ ∀ x ∈ r, [x] = last1 L := by
  obtain ⟨h1, ⟨r, h2, h3⟩, h4⟩ := its_spec hL hw m w.length
  have nil : its L w.length w = [] → en L w = L.length ^ 60 := fun e => by
    rw [e] at h1
    rw [← h1]
    unfold en wt
    simp
  rcases h4 with e | ⟨u, c, e, n⟩ | e
  · exact .inl ⟨e, nil e⟩
  · rw [e] at h1 h2
    exact .inr ⟨u, c, r, h2, e, n, h1, h3⟩
  · have e := List.length_eq_zero_iff.mp (by omega : (its L w.length w).length = 0)
    exact .inl ⟨e, nil e⟩
/-- the next branch -/
theorem nxt_spec (hL : Asc L) {w : List Nat} (hw : w.length ≤ 60) (m : In L w) : (nxt L w = none ∧ en L w = L.length ^ 60) ∨
    ∃ u x y r, nxt L w = some (u ++ [y]) ∧ w = u ++ x :: r ∧ x < y ∧ y ∈ L ∧ L.idxOf y ≠ 0 ∧ vl L (u ++ [y]) = en L w ∧ L[L.idxOf x + 1]? = some y ∧ (∀ c ∈ u, c ∈ L) ∧ its L w.length w = u ++ [x] ∧ x ∈ L := by
  rcases its_end hL hw m with ⟨e, h⟩ | ⟨u, c, r, h2, e, n, h1, h3⟩
  · exact .inl ⟨by unfold nxt; rw [if_pos e], h⟩
  · have mc : c ∈ L := m c (by rw [h2]; simp)
    have hi := not_top hL mc n
    obtain ⟨y, hy⟩ : ∃ y, L[L.idxOf c + 1]? = some y := ⟨_, List.getElem?_eq_getElem hi⟩
    have iy := idx_of hL hy
    refine .inr ⟨u, c, y, r, ?_, by rw [h2]; simp, ?_, List.mem_of_getElem? hy, by omega, ?_, hy, fun x hx => m x (by rw [h2]; simp [hx]), e, mc⟩
    · unfold nxt bump
      rw [if_neg (by rw [e]; simp), e]
      have : (u ++ [c]).getLastD 0 = c := by simp
      rw [this, hy, List.dropLast_concat]
      rfl
    · obtain ⟨i1, g1⟩ := List.getElem?_eq_some_iff.mp (get_idx mc)
      obtain ⟨i2, g2⟩ := List.getElem?_eq_some_iff.mp hy
      have := List.pairwise_iff_getElem.mp hL _ _ i1 i2 (by omega)
      omega
    · have hl : u.length < 60 := by rw [h2] at hw; simp at hw; omega
      rw [← h1, en_snoc hl, vl_snoc hl, vl_snoc hl, iy, Nat.succ_mul]
      omega
/-! ### the two are one -/
def tot (L : List Nat) (ws : List (List Nat)) : Nat := (ws.map fun w => L.length ^ (60 - w.length)).sum
theorem tot_cons (w : List Nat) (r : List (List Nat)) : tot L (w :: r) = L.length ^ (60 - w.length) + tot L r := rfl
theorem Pf.tail {w : List Nat} {r : List (List Nat)} (h : Pf (w :: r)) : Pf r := fun i a b e1 e2 => h (i + 1) a b e1 e2
/-- what the rest of an ordered list covers -/
theorem cover (hL : Asc L) : ∀ {ws : List (List Nat)} {w : List Nat}, (∀ v ∈ w :: ws, v.length ≤ 60 ∧ In L v) → Pf (w :: ws) → vl L w + tot L (w :: ws) ≤ L.length ^ 60
  | [], w, h, _ => by
    have := en_top (h w List.mem_cons_self).1 (h w List.mem_cons_self).2
    rw [en_vl] at this
    rw [tot_cons]
    simpa [tot] using this
  | v :: ws, w, h, p => by
    have ih := cover hL (fun x hx => h x (List.mem_cons_of_mem _ hx)) p.tail
    obtain ⟨a, b⟩ := p 0 w v rfl rfl
    have hw := h w List.mem_cons_self
    have hv := h v (List.mem_cons_of_mem _ List.mem_cons_self)
    have := en_le_vl hL a b hw.1 hv.1 hw.2 hv.2
    rw [en_vl] at this
    rw [tot_cons]
    omega
theorem zero_acc {p w : List Nat} {k z : Nat} (hz : L[0]? = some z) (hw : w.length ≤ 60) (e : w = p ++ List.replicate k z) : Acc L p w := by
  subst e
  refine ⟨hw, List.take_left' rfl, fun s hs => ?_⟩
  rw [List.drop_left' rfl] at hs
  rw [List.eq_of_mem_replicate hs]
  cases L with
  | nil => cases hz
  | cons a r =>
    cases hz
    rfl
theorem acc_zero {p w : List Nat} {z : Nat} (hz : L[0]? = some z) (h : Acc L p w) : ∃ k, w = p ++ List.replicate k z := by
  refine ⟨(w.drop p.length).length, ?_⟩
  have : w.drop p.length = List.replicate (w.drop p.length).length z := List.eq_replicate_iff.mpr ⟨rfl, fun s hs => by
    have := h.2.2 s hs
    cases L with
    | nil => cases hz
    | cons a r =>
      cases hz
      cases this
      rfl⟩
  rw [← this]
  have e := List.take_append_drop p.length w
  rw [h.2.1] at e
  exact e.symm
/-- a branch as the walk has it -/
def Br (L p : List Nat) : Prop := In L p ∧ (p = [] ∨ ∃ q c, p = q ++ [c] ∧ L.idxOf c ≠ 0)
theorem walk_of {z : Nat} (hL : Asc L) (hz : L[0]? = some z) : ∀ {ws : List (List Nat)} {w p : List Nat}, (∀ v ∈ w :: ws, v.length ≤ 60 ∧ In L v) → Pf (w :: ws) → Br L p → p.length ≤ 60 → vl L p = vl L w →
    vl L w + tot L (w :: ws) = L.length ^ 60 → Lv L (some p) (w :: ws)
  | ws, w, p, h, f, bp, lp, e, t => by
    have hw := h w List.mem_cons_self
    obtain ⟨k, ek⟩ := same_start hL hz lp hw.1 bp.1 hw.2 e bp.2
    refine ⟨zero_acc hz hw.1 ek, ?_⟩
    rw [tot_cons] at t
    have pos : 0 < L.length := by cases L with
      | nil => cases hz
      | cons a r => simp
    rcases nxt_spec hL hw.1 hw.2 with ⟨n, en1⟩ | ⟨u, x, y, r, n, ew, lt, my, iy, vv, -, mu, -, -⟩
    · rw [n]
      cases ws with
      | nil => rfl
      | cons v ws =>
        exfalso
        rw [en_vl] at en1
        rw [tot_cons] at t
        have : 0 < L.length ^ (60 - v.length) := Nat.pow_pos pos
        omega
    · rw [n]
      rw [en_vl] at vv
      cases ws with
      | nil =>
        exfalso
        have hlu : (u ++ [y]).length ≤ 60 := by have := hw.1; rw [ew] at this; simp at this ⊢; omega
        have := en_top (L := L) hlu fun c hc => by
          rcases List.mem_append.mp hc with hc | hc
          · exact mu c hc
          · rw [List.mem_singleton.mp hc]; exact my
        rw [en_vl] at this
        have p2 : 0 < L.length ^ (60 - (u ++ [y]).length) := Nat.pow_pos pos
        simp [tot] at t
        omega
      | cons v ws =>
        have cov := cover hL (fun x hx => h x (List.mem_cons_of_mem _ hx)) f.tail
        obtain ⟨a, b⟩ := f 0 w v rfl rfl
        have hv := h v (List.mem_cons_of_mem _ List.mem_cons_self)
        have le := en_le_vl hL a b hw.1 hv.1 hw.2 hv.2
        rw [en_vl] at le
        exact walk_of hL hz (fun x hx => h x (List.mem_cons_of_mem _ hx)) f.tail
          ⟨fun c hc => by
            rcases List.mem_append.mp hc with hc | hc
            · exact mu c hc
            · rw [List.mem_singleton.mp hc]; exact my, .inr ⟨u, y, rfl, iy⟩⟩ (by have := hw.1; rw [ew] at this; simp at this ⊢; omega) (by omega) (by omega)
theorem of_walk {z : Nat} (hL : Asc L) (hz : L[0]? = some z) : ∀ {ws : List (List Nat)} {p : List Nat}, In L p → Lv L (some p) ws →
    ws ≠ [] ∧ (∀ v ∈ ws, v.length ≤ 60 ∧ In L v) ∧ Pf ws ∧ vl L p + tot L ws = L.length ^ 60 ∧ ∀ w, ws[0]? = some w → p <+: w
  | [], p, _, h => absurd h (by intro h; cases h)
  | w :: ws, p, mp, h => by
    obtain ⟨h1, h2⟩ := h
    obtain ⟨k, ek⟩ := acc_zero hz h1
    have hw := h1.1
    have mw : In L w := fun c hc => by
      rw [ek] at hc
      rcases List.mem_append.mp hc with hc | hc
      · exact mp c hc
      · rw [List.eq_of_mem_replicate hc]
        exact List.mem_of_getElem? hz
    have iz := idx_of hL hz
    have ev : vl L p = vl L w := by
      unfold vl
      rw [ek, wt_zeros iz, Nat.mul_assoc, ← Nat.pow_add, List.length_append, List.length_replicate]
      congr 2
      rw [ek] at hw
      simp at hw
      omega
    have pre : ∀ v, (w :: ws)[0]? = some v → p <+: v := fun v hv => by
      cases hv
      exact ⟨_, ek.symm⟩
    rcases nxt_spec hL hw mw with ⟨n, en1⟩ | ⟨u, x, y, r, n, ew, lt, my, iy, vv, -, mu, -, -⟩
    · rw [n] at h2
      cases ws with
      | nil =>
        refine ⟨by simp, fun v hv => ?_, fun i a b e1 e2 => ?_, ?_, pre⟩
        · rw [List.mem_singleton.mp hv]
          exact ⟨hw, mw⟩
        · simp at e2
        · rw [en_vl] at en1
          rw [tot_cons, ev]
          simpa [tot] using en1
      | cons v ws => exact absurd h2 (by intro h; exact h)
    · rw [n] at h2
      obtain ⟨g1, g2, g3, g4, g5⟩ := of_walk hL hz (fun c hc => by
        rcases List.mem_append.mp hc with hc | hc
        · exact mu c hc
        · rw [List.mem_singleton.mp hc]; exact my) h2
      refine ⟨by simp, fun v hv => ?_, fun i a b e1 e2 => ?_, ?_, pre⟩
      · rcases List.mem_cons.mp hv with rfl | hv
        · exact ⟨hw, mw⟩
        · exact g2 v hv
      · cases i with
        | succ i => exact g3 i a b e1 e2
        | zero =>
          cases e1
          obtain ⟨s, es⟩ := g5 b e2
          rw [ew, ← es, List.append_assoc]
          exact ⟨lt_of_split u lt, not_pre u lt⟩
      · rw [tot_cons, ev]
        rw [en_vl] at vv
        omega
theorem max_len : ∀ (ws : List (List Nat)), ws ≠ [] → ∃ mx, (∃ w ∈ ws, w.length = mx) ∧ ∀ w ∈ ws, w.length ≤ mx
  | [], h => absurd rfl h
  | [w], _ => ⟨w.length, ⟨w, by simp, rfl⟩, fun v hv => by rw [List.mem_singleton.mp hv]; exact Nat.le_refl _⟩
  | w :: v :: r, _ => by
    obtain ⟨mx, ⟨u, hu, e⟩, h⟩ := max_len (v :: r) (by simp)
    by_cases c : w.length ≤ mx
    · exact ⟨mx, ⟨u, List.mem_cons_of_mem _ hu, e⟩, fun x hx => by
        rcases List.mem_cons.mp hx with rfl | hx
        · exact c
        · exact h x hx⟩
    · exact ⟨w.length, ⟨w, List.mem_cons_self, rfl⟩, fun x hx => by
        rcases List.mem_cons.mp hx with rfl | hx
        · exact Nat.le_refl _
        · have := h x hx; omega⟩
theorem tot_scale (b : Nat) {mx : Nat} (h60 : mx ≤ 60) : ∀ (ws : List (List Nat)), (∀ w ∈ ws, w.length ≤ mx) → (ws.map fun w => b ^ (60 - w.length)).sum = (ws.map fun w => b ^ (mx - w.length)).sum * b ^ (60 - mx)
  | [], _ => by simp
  | w :: r, h => by
    have := h w List.mem_cons_self
    rw [List.map_cons, List.sum_cons, List.map_cons, List.sum_cons, tot_scale b h60 r fun x hx => h x (List.mem_cons_of_mem _ hx), Nat.add_mul, ← Nat.pow_add]
    congr 2
    omega
theorem vl_nil : vl L [] = 0 := by unfold vl wt; simp
theorem whole (hL : Asc L) (ws : List (List Nat)) : Cm L ws ↔ Lv L (some []) ws := by
  cases hL0 : L with
  | cons z0 L0 =>
    have hz : L[0]? = some z0 := by rw [hL0]; rfl
    rw [← hL0]
    have pos : 0 < L.length := by rw [hL0]; simp
    constructor
    · rintro ⟨h0, h1, h2, h3⟩
      obtain ⟨mx, g1, g2⟩ := max_len ws h0
      have h60 : mx ≤ 60 := by
        obtain ⟨w, hw, e⟩ := g1
        rw [← e]
        exact (h1 w hw).1
      have t : tot L ws = L.length ^ 60 := by
        unfold tot
        rw [tot_scale L.length h60 ws g2, h3 mx g1 g2, ← Nat.pow_add]
        congr 1
        omega
      cases ws with
      | nil => exact absurd rfl h0
      | cons w ws =>
        have cov := cover hL h1 h2
        exact walk_of hL hz h1 h2 ⟨fun _ h => (by cases h), .inl rfl⟩ (by simp) (by rw [vl_nil]; omega) (by omega)
    · intro h
      obtain ⟨g0, g1, g2, g3, -⟩ := of_walk hL hz (fun _ h => by cases h) h
      refine ⟨g0, g1, g2, fun mx x1 x2 => ?_⟩
      have h60 : mx ≤ 60 := by
        obtain ⟨w, hw, e⟩ := x1
        rw [← e]
        exact (g1 w hw).1
      rw [vl_nil, Nat.zero_add] at g3
      unfold tot at g3
      rw [tot_scale L.length h60 ws x2, show (60 : Nat) = mx + (60 - mx) by omega, Nat.pow_add] at g3
      rw [show mx + (60 - mx) - mx = 60 - mx by omega] at g3
      exact Nat.eq_of_mul_eq_mul_right (Nat.pow_pos pos) g3
  | nil =>
    have nx : nxt [] [] = none := rfl
    constructor
    · rintro ⟨h0, h1, h2, h3⟩
      have all : ∀ w ∈ ws, w = [] := fun w hw => by
        cases w with
        | nil => rfl
        | cons c r => exact absurd ((h1 _ hw).2 c List.mem_cons_self) (by intro h; cases h)
      cases ws with
      | nil => exact absurd rfl h0
      | cons w ws =>
        have e := all w List.mem_cons_self
        subst e
        cases ws with
        | nil => exact ⟨⟨by simp, rfl, fun s hs => by cases hs⟩, rfl⟩
        | cons v ws =>
          have e := all v (List.mem_cons_of_mem _ List.mem_cons_self)
          subst e
          exact absurd (h2 0 [] [] rfl rfl).1 (List.not_lt_nil _)
    · intro h
      cases ws with
      | nil => cases h
      | cons w ws =>
        obtain ⟨⟨h1, h2, h3⟩, h4⟩ := h
        have e : w = [] := by
          cases w with
          | nil => rfl
          | cons c r => exact absurd (h3 c (by simp)) (by simp)
        subst e
        rw [nx] at h4
        cases ws with
        | cons v ws => exact absurd h4 (by intro h; exact h)
        | nil =>
          refine ⟨by simp, fun v hv => ?_, fun i a b e1 e2 => by simp at e2, fun mx x1 x2 => ?_⟩
          · rw [List.mem_singleton.mp hv]
            exact ⟨by simp, fun _ h => by cases h⟩
          · obtain ⟨w, hw, e⟩ := x1
            rw [List.mem_singleton.mp hw] at e
            subst e
            rfl
end RC.K45
namespace RC
open PySem PySem.Spec PyProof.Rows L2
/-! texts as lists of signs -/
def S (l : List Nat) : Str := ⟨l.toArray⟩
theorem S_of (z : Str) : z = S z.cps.toList := by cases z; rfl
theorem S_len (l : List Nat) : (S l).length = l.length := by
  show l.toArray.size = l.length
  exact List.size_toArray
theorem S_list (l : List Nat) : (S l).cps.toList = l := rfl
theorem S_add (a b : List Nat) : S a ++ S b = S (a ++ b) := by
  show (⟨a.toArray ++ b.toArray⟩ : Str) = ⟨(a ++ b).toArray⟩
  rw [List.append_toArray]
theorem S_inj {a b : List Nat} (h : S a = S b) : a = b := congrArg (fun z : Str => z.cps.toList) h
theorem S_eqV {a b : List Nat} : (V.str (S a) = V.str (S b)) ↔ a = b := ⟨fun h => S_inj (V.str.inj h), fun h => by rw [h]⟩
theorem S_get {l : List Nat} {i : Nat} {c : Nat} (h : (S l).cps[i]? = some c) : l[i]? = some c := by
  have : (S l).cps[i]? = l[i]? := by
    show l.toArray[i]? = l[i]?
    simp
  rw [this] at h
  exact h
abbrev sg (c : Nat) : V := V.str (S [c])
def cutL (l : List Nat) (lo hi : Option Int) : List Nat := (l.drop (HT.sIx l.length 0 lo)).take (HT.sIx l.length l.length hi - HT.sIx l.length 0 lo)
theorem S_cut (l : List Nat) (lo hi : Option Int) : cutS (S l) lo hi = S (cutL l lo hi) := by
  unfold cutS cutL
  rw [S_list, S_len]
  rfl
theorem six_neg1 (n d : Nat) : HT.sIx n d (some (-1)) = n - 1 := by
  show (if (-1 : Int) < 0 then ((-1 : Int) + (n : Int)).toNat else min (-1 : Int).toNat n) = n - 1
  rw [if_pos (by decide)]
  omega
theorem cut_last (l : List Nat) : cutL l (some (-1)) none = l.drop (l.length - 1) := by
  unfold cutL
  rw [six_neg1, HT.sIx_none]
  exact List.take_of_length_le (by rw [List.length_drop]; exact Nat.le_refl _)
theorem cut_init (l : List Nat) : cutL l none (some (-1)) = l.dropLast := by
  unfold cutL
  rw [six_neg1, HT.sIx_none, Nat.sub_zero, List.drop_zero, List.dropLast_eq_take]
theorem cut_to (l : List Nat) (k : Nat) : cutL l none (some (k : Int)) = l.take k := by
  unfold cutL
  rw [HT.sIx_nat, HT.sIx_none, Nat.sub_zero, List.drop_zero]
  by_cases h : k ≤ l.length
  · rw [Nat.min_eq_left h]
  · rw [Nat.min_eq_right (by omega), List.take_of_length_le (Nat.le_refl _), List.take_of_length_le (by omega)]
theorem cut_from (l : List Nat) (k : Nat) : cutL l (some (k : Int)) none = l.drop k := by
  unfold cutL
  rw [HT.sIx_nat, HT.sIx_none]
  by_cases h : k ≤ l.length
  · rw [Nat.min_eq_left h]
    exact List.take_of_length_le (by rw [List.length_drop]; exact Nat.le_refl _)
  · rw [Nat.min_eq_right (by omega), List.drop_of_length_le (Nat.le_refl _), List.drop_of_length_le (by omega), List.take_nil]
theorem cutL_len (l : List Nat) (lo hi : Option Int) : (cutL l lo hi).length ≤ l.length := by
  unfold cutL
  rw [List.length_take, List.length_drop]
  omega
/-! lists cut at a place -/
theorem cutV_to (xs : List V) (k : Nat) : cutV xs none (some (k : Int)) = xs.take k := by
  unfold cutV
  rw [HT.sIx_nat, HT.sIx_none, Nat.sub_zero, List.drop_zero]
  by_cases h : k ≤ xs.length
  · rw [Nat.min_eq_left h]
  · rw [Nat.min_eq_right (by omega), List.take_of_length_le (Nat.le_refl _), List.take_of_length_le (by omega)]
theorem cutV_from (xs : List V) (k : Nat) : cutV xs (some (k : Int)) none = xs.drop k := by
  unfold cutV
  rw [HT.sIx_nat, HT.sIx_none]
  by_cases h : k ≤ xs.length
  · rw [Nat.min_eq_left h]
    exact List.take_of_length_le (by rw [List.length_drop]; exact Nat.le_refl _)
  · rw [Nat.min_eq_right (by omega), List.drop_of_length_le (Nat.le_refl _), List.drop_of_length_le (by omega), List.take_nil]
/-! ### rules -/
def oAddS : R2 := fun x y H Q => ∃ i j, x = .str i ∧ y = .str j ∧ i.length + j.length ≤ sizeLine ∧ Q (.str (i ++ j)) H
def oLeS : R2 := fun x y H Q => ∃ i j, x = .str i ∧ y = .str j ∧ Q (.bl (!decide (j.cps.toList < i.cps.toList))) H
def oInS : R2 := fun x y H Q => ∃ (c : Nat) (z : Str), x = .str ⟨#[c]⟩ ∧ y = .str z ∧ Q (.bl (decide (c ∈ z.cps.toList))) H
def bListS : List V → Hp → VK → Prop := fun vs H Q => ∃ l : List Nat, vs = [.str (S l)] ∧ l.length ≤ sizeLine ∧ ∀ p, H p = none → Q (.ref p) (upd H p (.lst (l.map sg)))
def bTupS : List V → Hp → VK → Prop := fun vs H Q => ∃ l : List Nat, vs = [.str (S l)] ∧ l.length ≤ sizeLine ∧ ∀ p, H p = none → Q (.ref p) (upd H p (.tup (l.map sg)))
abbrev strV (w : List Nat) : V := V.str (S w)
def bSortS (K : PySem.W.Frag) : List V → Hp → VK → Prop := fun vs H Q => ∃ (a : Addr) (ws : List (List Nat)), vs = [V.ref a] ∧ SqL K H a (ws.map strV) ∧
  ∀ (us : List (List Nat)) (p : Addr), us.Perm ws → us.Pairwise (fun a b => ¬ b < a) → H p = none → Q (.ref p) (upd H p (.lst (us.map strV)))
def mStart : V → List V → Hp → VK → Prop := fun x xs H Q => ∃ a b : List Nat, x = .str (S a) ∧ xs = [.str (S b)] ∧ Q (.bl (decide (b <+: a))) H
def mIdx : V → List V → Hp → VK → Prop := fun x xs H Q => ∃ (a : List Nat) (c : Nat), x = .str (S a) ∧ xs = [.str (S [c])] ∧ c ∈ a ∧ Q (.int (a.idxOf c : Nat)) H
def mCase : V → List V → Hp → VK → Prop := fun x xs H Q => ∃ a : List Nat, x = .str (S a) ∧ xs = [] ∧ a.length ≤ 5592405 ∧ ∀ b : List Nat, b.length ≤ 3 * a.length → Q (.str (S b)) H
section
variable {X : Cx}
theorem w_addS : OpR X (binaryOp .Add) oAddS := op_add_str
theorem w_leS : OpR X (compareOp .LtE) oLeS := op_le_str
theorem w_inS : OpR X (compareOp .In) oInS := op_in_sign
theorem vals_sg {l : List Nat} {acc : Array Value} (h : ItemsOf (SignAt (S l)) acc l.length) : Vals (l.map sg) acc.toList := by
  refine vals_of_at (by rw [List.length_map, Array.length_toList]; exact h.1.symm) fun j x u h1 h2 => ?_
  obtain ⟨c, t, hc, rfl⟩ := h.2 j u (by rw [← Array.getElem?_toList]; exact h2)
  rw [List.getElem?_map, S_get hc] at h1
  cases h1
  exact ⟨t, rfl⟩
theorem w_listS (hc : X.calm = true) : CallR X (.type "list") bListS := by
  intro pins s σ H xs us Q I r h
  obtain ⟨l, rfl, hz, q⟩ := h
  obtain ⟨u, rfl, t, rfl⟩ := vals1 r
  refine call_list_str (I.ok.hd hc) (S l) t (fun h' tk acc c' hk hS hacc => ?_) (by show (S l).length ≤ sizeLine; rw [S_len]; exact hz)
  have hl : (S l).cps.size = l.length := S_len l
  rw [hl] at hacc
  exact ⟨.ref s.heap.objs.size, _, I.laid (t' := tk) hk (Nat.le_refl _) (show ObjOk X.prog X.w _ h' _ (.lst (l.map sg)) from ⟨by rw [List.length_map]; exact hz, acc.toList, c', vals_sg hacc, by rw [Array.toArray_toList]; exact hS⟩), rfl, q _ (I.hok.fresh (Nat.le_refl _))⟩
theorem w_tupS (hc : X.calm = true) : CallR X (.type "tuple") bTupS := by
  intro pins s σ H xs us Q I r h
  obtain ⟨l, rfl, hz, q⟩ := h
  obtain ⟨u, rfl, t, rfl⟩ := vals1 r
  refine call_tuple_str (I.ok.hd hc) (S l) t (fun h' tk acc hk hacc => ?_) (by show (S l).length ≤ sizeLine; rw [S_len]; exact hz)
  have hl : (S l).cps.size = l.length := S_len l
  rw [hl] at hacc
  have I1 : Inv X pins σ H { s with heap := h', toks := tk } := I.kept hk
  have I2 : Inv X pins σ (upd H h'.objs.size (.tup (l.map sg))) { s with heap := h'.push { cls := .type "tuple", data := .seq acc }, toks := tk } :=
    I1.laid (t' := tk) (fun b o e => Heap.get?_push_of_some _ e) (Nat.le_refl _) (show ObjOk X.prog X.w _ _ _ (.tup (l.map sg)) from ⟨by rw [List.length_map]; exact hz, acc.toList, vals_sg hacc, by rw [Array.toArray_toList]; exact IsTup.new h' acc⟩)
  exact ⟨.ref h'.objs.size, _, I2, rfl, q _ (I1.hok.fresh (Nat.le_refl _))⟩
theorem risingS_pw : ∀ (r : List Str) (p : Str), risingS p r = true → (p :: r).Pairwise (fun a b => ¬ b.cps.toList < a.cps.toList)
  | [], p, _ => List.pairwise_singleton _ _
  | x :: r, p, h => by
    have h' : (!ltCps x.cps.toList p.cps.toList && risingS x r) = true := h
    rw [Bool.and_eq_true, Bool.not_eq_true', ltCps_eq, decide_eq_false_iff_not] at h'
    have ih := risingS_pw r x h'.2
    refine List.pairwise_cons.mpr ⟨fun y hy => ?_, ih⟩
    rcases List.mem_cons.mp hy with rfl | hy
    · exact h'.1
    · have := (List.pairwise_cons.mp ih).1 y hy
      intro g
      have le1 : p.cps.toList ≤ x.cps.toList := h'.1
      have le2 : x.cps.toList ≤ y.cps.toList := this
      exact (List.le_trans le1 le2) g
theorem sorted_pw {ss : List Str} (h : sortedS ss = true) : ss.Pairwise (fun a b => ¬ b.cps.toList < a.cps.toList) := by
  cases ss with
  | nil => exact List.Pairwise.nil
  | cons x r => exact risingS_pw r x h
theorem w_sortS : CallR X (.builtin "sorted") (bSortS X.K) := by
  intro pins s σ H vs us Q I r h
  obtain ⟨a, ws, rfl, hs, q⟩ := h
  have es : ws.map strV = (ws.map S).map V.str := by rw [List.map_map]; rfl
  rw [es] at hs
  obtain ⟨its, rv, hl, hz⟩ := I.list hs
  rw [Vals.ref1 r]
  have hlen0 := rv.length
  rw [List.length_map] at hlen0
  refine PyProof.Rows.sorted_strsAny hl.isList rv.strs (by rw [← hlen0]; rw [List.length_map] at hz; exact hz) fun out ys h1 h2 h3 => ?_
  obtain ⟨ep, he'⟩ := PyProof.Rows.sortedAll_at s.heap its out
  have hlen : (ys.map V.str).length ≤ sizeLine := by rw [List.length_map, h2.length_eq]; rw [List.length_map] at hz; exact hz
  have e1 : ys = (ys.map fun z => z.cps.toList).map S := by
    rw [List.map_map]
    conv => lhs; rw [← List.map_id ys]
    exact List.map_congr_left fun z _ => S_of z
  have p1 : (ys.map fun z => z.cps.toList).Perm ws := by
    have := h2.map fun z : Str => z.cps.toList
    rw [List.map_map] at this
    have e2 : ws.map ((fun z : Str => z.cps.toList) ∘ S) = ws := by
      conv => rhs; rw [← List.map_id ws]
      exact List.map_congr_left fun z _ => rfl
    rw [e2] at this
    exact this
  have k := q (ys.map fun z => z.cps.toList) (s.heap.objs.size + 1) p1 (List.pairwise_map.mpr (sorted_pw h3)) (I.hok.fresh (Nat.le_succ _))
  have e3 : (ys.map fun z => z.cps.toList).map strV = ys.map V.str := by
    rw [List.map_map]
    exact List.map_congr_left fun z _ => by show V.str (S z.cps.toList) = V.str z; rw [← S_of z]
  rw [e3] at k
  exact ⟨.ref _, upd H (s.heap.objs.size + 1) (.lst (ys.map V.str)), I.laid (t' := s.toks) (fun _ _ => PyProof.Rows.sortedAll_old) (Nat.le_succ _) ⟨hlen, out.toList, ep, vals_of_strs h1, he'⟩, rfl, k⟩
theorem starts_iff (a b : List Nat) : Txt.startswith (S a) (S b) = decide (b <+: a) := by
  show (decide (0 + (S b).length ≤ (S a).length) && Builtin.Str.subAt (S a) (S b) 0) = decide (b <+: a)
  rw [PySem.StrLaws.subAt_eq, S_len, S_len, S_list, S_list, List.drop_zero, Bool.eq_iff_iff, Bool.and_eq_true, decide_eq_true_eq, decide_eq_true_eq, beq_iff_eq]
  constructor
  · rintro ⟨_, h⟩
    rw [← h]
    exact List.take_prefix _ _
  · intro h
    exact ⟨by have := h.length_le; omega, (List.prefix_iff_eq_take.mp h).symm⟩
theorem pe_startS {o e : Expr} {to te : TE} {apos pos : Pos} (ho : PE X o to) (he : PE X e te) (hs : starEach [e] X.env = [(false, eval e X.env)] := by rfl) (hbase : attributeBase o "startswith" X.env (eval o X.env) = eval o X.env := by rfl) (hline : (apos.endLine == pos.line) = true := by rfl) :
    PE X (.Call (.Attribute o "startswith" apos) [e] [] pos) (tM1 mStart to te) := by
  refine pe_m1 PySem.F.slot_str_startswith PySem.F.type_str_startswith (fun pins s σ H x xs v us Q I rx rs h => ?_) ho he hs hbase hline
  obtain ⟨a, b, rfl, rfl, q⟩ := h
  exact mt_startswith pins s σ H _ _ v us Q I rx rs ⟨S a, S b, rfl, rfl, by rw [starts_iff]; exact q⟩
theorem occ_at {a : List Nat} {c : Nat} (h : c ∈ a) : ∃ rest, Builtin.Str.occurrences (S a) (S [c]) 0 (S a).length 1 = a.idxOf c :: rest := by
  rcases PySem.StrLaws.occ_head (S a) (S [c]) 1 (Nat.le_refl _) with ⟨_, n⟩ | ⟨i, r, e, h1, h2⟩
  · exfalso
    obtain ⟨i, hi⟩ := List.mem_iff_getElem?.mp h
    exact n i ((PySem.StrLaws.subAt_one (S a) c i).mpr hi)
  · have hi : a[i]? = some c := (PySem.StrLaws.subAt_one (S a) c i).mp h1
    have e2 : i = a.idxOf c := by
      obtain ⟨g1, g2⟩ := List.getElem?_eq_some_iff.mp hi
      have l1 : a.idxOf c ≤ i := by
        refine Nat.le_of_not_lt fun g => ?_
        have := List.not_of_lt_findIdx (p := (· == c)) (xs := a) (i := i) g
        simp [g2] at this
      refine Nat.le_antisymm (Nat.le_of_not_lt fun g => h2 _ g ((PySem.StrLaws.subAt_one (S a) c _).mpr ?_)) l1
      show a[a.idxOf c]? = some c
      rw [List.getElem?_eq_getElem (List.idxOf_lt_length_of_mem h)]
      simp
    exact ⟨r, by rw [e, e2]⟩
theorem pe_idxS {o e : Expr} {to te : TE} {apos pos : Pos} (ho : PE X o to) (he : PE X e te) (hs : starEach [e] X.env = [(false, eval e X.env)] := by rfl) (hbase : attributeBase o "index" X.env (eval o X.env) = eval o X.env := by rfl) (hline : (apos.endLine == pos.line) = true := by rfl) :
    PE X (.Call (.Attribute o "index" apos) [e] [] pos) (tM1 mIdx to te) := by
  refine pe_m1 PySem.F.slot_str_index PySem.F.type_str_index (fun pins s σ H x xs v us Q I rx rs h => ?_) ho he hs hbase hline
  obtain ⟨a, c, rfl, rfl, m, q⟩ := h
  obtain ⟨rest, e⟩ := occ_at m
  exact mt_sindex pins s σ H _ _ v us Q I rx rs ⟨S a, S [c], _, rest, rfl, rfl, e, q⟩
theorem pe_lowS {o : Expr} {to : TE} {apos pos : Pos} (ho : PE X o to) (hbase : attributeBase o "lower" X.env (eval o X.env) = eval o X.env := by rfl) (hline : (apos.endLine == pos.line) = true := by rfl) :
    PE X (.Call (.Attribute o "lower" apos) [] [] pos) (tM0 mCase to) := by
  refine pe_m0 PySem.F.slot_str_lower PySem.F.type_str_lower (fun pins s σ H x xs v us Q I rx rs h => ?_) ho hbase hline
  obtain ⟨a, rfl, rfl, z, q⟩ := h
  refine mt_lower pins s σ H _ _ v us Q I rx rs ⟨S a, rfl, rfl, by rw [S_len]; exact z, ?_⟩
  rw [S_of (Txt.lower (S a))]
  refine q _ ?_
  have := PyProof.Rows.len_lower (S a)
  rw [S_len] at this
  exact this
theorem pe_upS {o : Expr} {to : TE} {apos pos : Pos} (ho : PE X o to) (hbase : attributeBase o "upper" X.env (eval o X.env) = eval o X.env := by rfl) (hline : (apos.endLine == pos.line) = true := by rfl) :
    PE X (.Call (.Attribute o "upper" apos) [] [] pos) (tM0 mCase to) := by
  refine pe_m0 PySem.F.slot_str_upper PySem.F.type_str_upper (fun pins s σ H x xs v us Q I rx rs h => ?_) ho hbase hline
  obtain ⟨a, rfl, rfl, z, q⟩ := h
  refine mt_upper pins s σ H _ _ v us Q I rx rs ⟨S a, rfl, rfl, by rw [S_len]; exact z, ?_⟩
  rw [S_of (Txt.upper (S a))]
  refine q _ ?_
  have := PyProof.Rows.len_upper (S a)
  rw [S_len] at this
  exact this
theorem join_signs (l : List Nat) : Txt.join (S []) (l.map fun c => S [c]) = S l := by
  show Builtin.Str.glued (S []) (l.map fun c => S [c]) = S l
  rw [PySem.StrLaws.glued_eq_join]
  have := PyProof.Rows.join_nil_signs (S l)
  unfold PyProof.Rows.signs at this
  exact this
/-- ''.join(signs) -/
def mJoin (K : PySem.W.Frag) : V → List V → Hp → VK → Prop := fun x xs H Q => ∃ (p : Addr) (l : List Nat), x = .str (S []) ∧ xs = [.ref p] ∧ (SqL K H p (l.map sg) ∨ SqT K H p (l.map sg)) ∧ l.length ≤ 16777216 ∧ Q (.str (S l)) H
theorem pe_joinS {K : PySem.W.Frag} {o e : Expr} {to te : TE} {apos pos : Pos} (h : X.K = K) (ho : PE X o to) (he : PE X e te) (hs : starEach [e] X.env = [(false, eval e X.env)] := by rfl) (hbase : attributeBase o "join" X.env (eval o X.env) = eval o X.env := by rfl) (hline : (apos.endLine == pos.line) = true := by rfl) :
    PE X (.Call (.Attribute o "join" apos) [e] [] pos) (tM1 (mJoin K) to te) := by
  subst h
  refine pe_m1 PySem.F.slot_str_join PySem.F.type_str_join (fun pins s σ H x xs v us Q I rx rs h => ?_) ho he hs hbase hline
  obtain ⟨p, l, rfl, rfl, m, z, q⟩ := h
  have e : l.map sg = (l.map fun c => S [c]).map V.str := by rw [List.map_map]; rfl
  refine mt_join pins s σ H _ _ v us Q I rx rs ⟨S [], p, l.map fun c => S [c], rfl, rfl, by rw [← e]; exact m, ?_, by rw [join_signs]; exact q⟩
  have e2 : ((l.map fun c => S [c]).map fun z : Str => z.length) = l.map fun _ => 1 := by rw [List.map_map]; rfl
  have e3 : ∀ l : List Nat, (l.map fun _ => 1).sum = l.length := fun l => by induction l with
    | nil => rfl
    | cons a r ih => rw [List.map_cons, List.sum_cons, ih, List.length_cons]; omega
  show (((l.map fun c => S [c]).map fun z : Str => z.length)).sum + (l.map fun c => S [c]).length * 0 ≤ 16777216
  rw [e2, e3]
  omega
end
/-! ### readings -/
section
variable {K : PySem.W.Frag} {σ : L2.St} {H : Hp} {D : Ends} {Q : VK} {te ta tb : TE} {g : TG}
theorem v_addS {a b : List Nat} (c : a.length + b.length ≤ sizeLine) (h : Q (.str (S (a ++ b))) H) : oAddS (.str (S a)) (.str (S b)) H Q := ⟨S a, S b, rfl, rfl, by rw [S_len, S_len]; exact c, by rw [S_add]; exact h⟩
theorem v_leS {a b : List Nat} (h : Q (.bl (!decide (b < a))) H) : oLeS (.str (S a)) (.str (S b)) H Q := ⟨S a, S b, rfl, rfl, h⟩
theorem v_inS {c : Nat} {a : List Nat} (h : Q (.bl (decide (c ∈ a))) H) : oInS (.str (S [c])) (.str (S a)) H Q := ⟨c, S a, rfl, rfl, h⟩
theorem v_lenSS {a : List Nat} (c : a.length ≤ sizeLine) (h : Q (.int a.length) H) : bLenS [.str (S a)] H Q := ⟨S a, rfl, by rw [S_len]; exact c, by rw [S_len]; exact h⟩
theorem v_ixS {a : List Nat} {i : Int} {c : Nat} (z : a.length ≤ sizeLine) (e : atI a i = some c) (h : Q (.str (S [c])) H) : rIxS (.str (S a)) (.int i) H Q := ⟨S a, i, c, rfl, rfl, by rw [S_len]; exact z, e, h⟩
theorem v_slS {a : List Nat} {lo hi : Option Int} (z : a.length ≤ sizeLine) (h : Q (.str (S (cutL a lo hi))) H) : rSlS (.str (S a)) lo hi H Q := ⟨S a, rfl, by rw [S_len]; exact z, by rw [S_cut]; exact h⟩
theorem v_listS {l : List Nat} (z : l.length ≤ sizeLine) (h : ∀ p, H p = none → Q (.ref p) (upd H p (.lst (l.map sg)))) : bListS [.str (S l)] H Q := ⟨l, rfl, z, h⟩
theorem v_tupS {l : List Nat} (z : l.length ≤ sizeLine) (h : ∀ p, H p = none → Q (.ref p) (upd H p (.tup (l.map sg)))) : bTupS [.str (S l)] H Q := ⟨l, rfl, z, h⟩
theorem v_sortS {a : Addr} {ws : List (List Nat)} (c : SqL K H a (ws.map strV)) (h : ∀ (us : List (List Nat)) (p : Addr), us.Perm ws → us.Pairwise (fun a b => ¬ b < a) → H p = none → Q (.ref p) (upd H p (.lst (us.map strV)))) : bSortS K [.ref a] H Q :=
  ⟨a, ws, rfl, c, h⟩
theorem v_M1 {r : V → List V → Hp → VK → Prop} (h : ta σ H fun x H1 => (∃ a, x = .str a) ∧ tb σ H1 fun y H2 => r x [y] H2 Q) : tM1 r ta tb σ H Q := h
theorem v_M0 {r : V → List V → Hp → VK → Prop} (h : ta σ H fun x H1 => (∃ a, x = .str a) ∧ r x [] H1 Q) : tM0 r ta σ H Q := h
theorem v_isStr {a : Str} {R : Prop} (h : R) : (∃ b, V.str a = .str b) ∧ R := ⟨⟨a, rfl⟩, h⟩
theorem v_start {a b : List Nat} (h : Q (.bl (decide (b <+: a))) H) : mStart (.str (S a)) [.str (S b)] H Q := ⟨a, b, rfl, rfl, h⟩
theorem v_idx {a : List Nat} {c : Nat} (m : c ∈ a) (h : Q (.int (a.idxOf c : Nat)) H) : mIdx (.str (S a)) [.str (S [c])] H Q := ⟨a, c, rfl, rfl, m, h⟩
theorem v_case {a : List Nat} (z : a.length ≤ 5592405) (h : ∀ b : List Nat, b.length ≤ 3 * a.length → Q (.str (S b)) H) : mCase (.str (S a)) [] H Q := ⟨a, rfl, rfl, z, h⟩
theorem v_join' {p : Addr} {l : List Nat} (c : SqL K H p (l.map sg)) (z : l.length ≤ 16777216) (h : Q (.str (S l)) H) : mJoin K (.str (S [])) [.ref p] H Q := ⟨p, l, rfl, rfl, .inl c, z, h⟩
theorem v_iStr {R : It → Hp → Prop} (h : te σ H fun v H1 => ∃ x, v = .str x ∧ R (Its x) H1) : iStr te σ H R := h
theorem v_isS {l : List Nat} {R : Str → Prop} (h : R (S l)) : ∃ x, V.str (S l) = .str x ∧ R x := ⟨_, rfl, h⟩
theorem loop_str {l : List Nat} {tb : TS} (Pv : Nat → L2.St → Hp → Prop) (h0 : Pv 0 σ H)
    (hs : ∀ i c σ H, l[i]? = some c → Pv i σ H → g (.str (S [c])) σ H fun σ2 H2 => tb { D with nx := Pv (i + 1), ct := Pv (i + 1), bk := D.nx } σ2 H2) (hd : ∀ σ H, Pv l.length σ H → D.nx σ H) : Loop (Its (S l)) g tb D σ H :=
  for_it (n := (S l).cps.size) walk_str Pv h0 (fun _ _ _ _ _ => trivial) (fun i x σ H H' hi p y => by
    obtain ⟨e, c, hc, e2⟩ := y
    subst e e2
    exact hs i c σ _ (S_get hc) p) (fun σ H p => hd σ H (by have e : (S l).cps.size = l.length := S_len l; rw [e] at p; exact p))
theorem lc_s {l : List Nat} {D : Addr} {tt : TT} {vs : List Nat} {H1 : Hp} {Qd : Hp → Prop} (Pv : Nat → Hp → Prop) (h0 : Pv 0 (upd H1 D (.lst [])))
    (hs : ∀ i c H, l[i]? = some c → Pv i H → g (.str (S [c])) (wipe σ vs) H fun σ2 H2 => wipe σ2 vs = wipe σ vs ∧ tt σ2 H2 fun b H3 =>
      if b = true then te σ2 H3 fun y H4 => ∃ acc, H4 D = some (.lst acc) ∧ acc.length < sizeLine ∧ Pv (i + 1) (upd H4 D (.lst (acc ++ [y]))) else Pv (i + 1) H3) (hd : ∀ H, Pv l.length H → Qd H) : LcLoop (Its (S l)) g tt te vs σ D H1 Qd :=
  lc_it (n := (S l).cps.size) walk_str Pv h0 (fun _ _ _ _ => trivial) (fun i x H H' hi p y => by
    obtain ⟨e, c, hc, e2⟩ := y
    subst e e2
    exact hs i c _ (S_get hc) p) (fun H p => hd H (by have e : (S l).cps.size = l.length := S_len l; rw [e] at p; exact p))
theorem lc_r {lo : Int} {n : Nat} {D : Addr} {tt : TT} {vs : List Nat} {H1 : Hp} {Qd : Hp → Prop} (Pv : Nat → Hp → Prop) (h0 : Pv 0 (upd H1 D (.lst [])))
    (hs : ∀ i H, i < n → Pv i H → g (.int (lo + i)) (wipe σ vs) H fun σ2 H2 => wipe σ2 vs = wipe σ vs ∧ tt σ2 H2 fun b H3 =>
      if b = true then te σ2 H3 fun y H4 => ∃ acc, H4 D = some (.lst acc) ∧ acc.length < sizeLine ∧ Pv (i + 1) (upd H4 D (.lst (acc ++ [y]))) else Pv (i + 1) H3) (hd : ∀ H, Pv n H → Qd H) : LcLoop (Itr lo n) g tt te vs σ D H1 Qd :=
  lc_range Pv h0 hs hd
end
section
variable {K : PySem.W.Frag} {σ : L2.St} {H : Hp} {Q : VK}
theorem tyX_tup {a : Addr} {xs : List V} (h : SqT K H a xs) : TyX K H (.ref a) (.type "tuple") := by
  rcases h with (h | ⟨o, h⟩) | ⟨o, its, n, h1, h2, _⟩
  · exact .base (.tup h)
  · exact .fTuple h
  · exact .kTuple h1 h2
theorem tyX_lst {a : Addr} {xs : List V} (h : H a = some (.lst xs)) : TyX K H (.ref a) (.type "list") := .base (.lst h)
theorem v_chain {r1 r2 : R2} {a b c : TE} (h : a σ H fun x H1 => b σ H1 fun y H2 => r1 x y H2 fun z H3 => ∃ k, z = .bl k ∧ if k = true then c σ H3 fun u H4 => r2 y u H4 Q else Q (.bl false) H3) : tChain r1 r2 a b c σ H Q := h
theorem v_pow' {a b : Int} (c : (0 ≤ b ∧ b ≤ 1000000) ∧ a.natAbs < 2 ^ 64) (h : Q (.int (a ^ b.toNat)) H) : oPow (.int a) (.int b) H Q := v_pow ⟨c.1.1, c.1.2, c.2⟩ h
theorem v_cat {l b : Addr} {xs zs : List V} (c1 : H l = some (.lst xs)) (c2 : H b = some (.lst zs)) (z : xs.length + zs.length ≤ sizeLine) (h : ∀ p, H p = none → Q (.ref p) (upd H p (.lst (xs ++ zs)))) : rCat (.ref l) (.ref b) H Q := ⟨l, b, xs, zs, rfl, rfl, c1, c2, z, h⟩
theorem v_slL {a : Addr} {xs : List V} {lo hi : Option Int} (c : SqL K H a xs) (h : ∀ p, H p = none → Q (.ref p) (upd H p (.lst (cutV xs lo hi)))) : rSlL K (.ref a) lo hi H Q := ⟨a, xs, rfl, c, h⟩
theorem cutV_whole {xs : List V} {lo hi : Option Int} (w : HT.sIx xs.length 0 lo = 0 ∧ HT.sIx xs.length xs.length hi = xs.length) : cutV xs lo hi = xs := by
  unfold cutV
  rw [w.1, w.2, List.drop_zero, Nat.sub_zero, List.take_length]
theorem v_slA {a : Addr} {xs : List V} {lo hi : Option Int} (c : SqT K H a xs) (h : ∀ p H', Same H H' → SqT K H' p (cutV xs lo hi) → Q (.ref p) H') : rSlA K (.ref a) lo hi H Q :=
  ⟨a, xs, rfl, c, fun w => h a H (Same.refl H) (by rw [cutV_whole w]; exact c), fun _ p hp => h p _ ((Same.refl H).vnew hp) (SqT.of upd_same)⟩
theorem v_catA {a b : Addr} {xs ys : List V} (c1 : SqT K H a xs) (c2 : SqT K H b ys) (z : xs.length + ys.length ≤ sizeLine) (h : ∀ p H', Same H H' → SqT K H' p (xs ++ ys) → Q (.ref p) H') : rCatA K (.ref a) (.ref b) H Q :=
  ⟨a, b, xs, ys, rfl, rfl, c1, c2, z, fun e => by subst e; exact h b H (Same.refl H) (by rw [List.nil_append]; exact c2),
    fun _ e => by subst e; exact h a H (Same.refl H) (by rw [List.append_nil]; exact c1), fun _ _ p hp => h p _ ((Same.refl H).vnew hp) (SqT.of upd_same)⟩
theorem v_all {a : Addr} {bs : List Bool} (c : SqL K H a (bs.map V.bl)) (h : Q (.bl (bs.all id)) H) : rAll K [.ref a] H Q := ⟨a, bs, rfl, c, h⟩
theorem v_sum {a : Addr} {ns : List Int} (c : SqL K H a (ns.map V.int)) (h : Q (.int ns.sum) H) : rSum K [.ref a] H Q := ⟨a, ns, rfl, c, h⟩
theorem v_maxL {a : Addr} {ns : List Int} (c : SqL K H a (ns.map V.int)) (z : 0 < ns.length) (h : ∀ m, m ∈ ns → (∀ y, y ∈ ns → y ≤ m) → Q (.int m) H) : rMax K [.ref a] H Q := ⟨a, ns, rfl, c, z, h⟩
theorem v_popAt {l : Addr} {xs : List V} {i : Int} {y : V} (c : H l = some (.lst xs)) (h0 : 0 ≤ i ∧ i < 2 ^ 62) (e : xs[i.toNat]? = some y) (h : Q y (upd H l (.lst (xs.eraseIdx i.toNat)))) : rPopAt (.ref l) [.int i] H Q := by
  have hl := (List.getElem?_eq_some_iff.mp e).1
  refine ⟨l, xs, i, i.toNat, y, rfl, rfl, c, by omega, by omega, (ixN_seq (ixN_ok h0.1 (by omega))).1, e, h⟩
theorem v_extend {l b : Addr} {xs zs : List V} (c1 : H l = some (.lst xs)) (c2 : H b = some (.lst zs)) (z : xs.length + zs.length ≤ sizeLine) (h : Q .non (upd H l (.lst (xs ++ zs)))) : rExtend (.ref l) [.ref b] H Q := ⟨l, b, xs, zs, rfl, rfl, c1, c2, z, h⟩
theorem v_intB' {b : Bool} (h : Q (.int (if b = true then 1 else 0)) H) : bInt [.bl b] H Q := .inr ⟨b, rfl, h⟩
end
section
variable {X : Cx}
theorem pe_strS {z : Str} {j : Nat} {pos : Pos} (l : List Nat) (h : z = S l) : PE X (.Constant (.str z) j pos) (tC (.str (S l))) := by
  subst h
  exact pe_str
theorem pe_cInt {x : Str} {i : Int} {pos : Pos} (hm : ∃ t, X.mg x = some (.int i t)) (hg : Gl X x := by rfl) (hd : (x == ("__debug__" : Str)) = false := by decide) : PE X (.Name x pos) (tC (.int i)) := by
  obtain ⟨t, hm⟩ := hm
  exact pe_glob hg hm ⟨t, rfl⟩ hd
theorem pe_cStr {x : Str} {z : Str} {pos : Pos} (hm : ∃ t, X.mg x = some (.str z t)) (hg : Gl X x := by rfl) (hd : (x == ("__debug__" : Str)) = false := by decide) : PE X (.Name x pos) (tC (.str z)) := by
  obtain ⟨t, hm⟩ := hm
  exact pe_glob hg hm ⟨t, rfl⟩ hd
end
section
variable {X : Cx} {K : PySem.W.Frag}
theorem k_sortS (h : X.K = K) : CallR X (.builtin "sorted") (bSortS K) := by subst h; exact w_sortS
theorem k_listS (hc : X.calm = true) : CallR X (.type "list") bListS := w_listS hc
end
end RC
namespace RC
open PySem PySem.Spec PyProof.Rows L2
/-! new objects, told by what stands -/
section
variable {K : PySem.W.Frag} {σ : L2.St} {H : Hp} {Q : VK}
theorem new_same {P : V → Hp → Prop} {o : HO} (h : ∀ q H', Same H H' → H q = none → H' q = some o → P (.ref q) H') : ∀ p, H p = none → P (.ref p) (upd H p o) := fun p f => h p _ ((Same.refl H).vnew f) f upd_same
theorem v_tup' {xs : List V} (c : xs.length ≤ sizeLine) (h : ∀ q H', Same H H' → H q = none → H' q = some (.tup xs) → Q (.ref q) H') : xs.length ≤ sizeLine ∧ ∀ p, H p = none → Q (.ref p) (upd H p (.tup xs)) := ⟨c, new_same h⟩
theorem v_lst' {xs : List V} (c : xs.length ≤ sizeLine) (h : ∀ q H', Same H H' → H q = none → H' q = some (.lst xs) → Q (.ref q) H') : xs.length ≤ sizeLine ∧ ∀ p, H p = none → Q (.ref p) (upd H p (.lst xs)) := ⟨c, new_same h⟩
theorem v_slL' {a : Addr} {xs : List V} {lo hi : Option Int} (c : SqL K H a xs) (h : ∀ q H', Same H H' → H q = none → H' q = some (.lst (cutV xs lo hi)) → Q (.ref q) H') : rSlL K (.ref a) lo hi H Q := v_slL c (new_same h)
theorem v_cat' {l b : Addr} {xs zs : List V} (c1 : H l = some (.lst xs)) (c2 : H b = some (.lst zs)) (z : xs.length + zs.length ≤ sizeLine) (h : ∀ q H', Same H H' → H q = none → H' q = some (.lst (xs ++ zs)) → Q (.ref q) H') : rCat (.ref l) (.ref b) H Q := v_cat c1 c2 z (new_same h)
theorem v_tupL' {p : Addr} {ys : List V} (c : SqL K H p ys) (h : ∀ q H', Same H H' → H q = none → H' q = some (.tup ys) → Q (.ref q) H') : bTup K [.ref p] H Q := v_tupL c (new_same h)
theorem v_listL' {p : Addr} {ys : List V} (c : SqL K H p ys) (h : ∀ q H', Same H H' → H q = none → H' q = some (.lst ys) → Q (.ref q) H') : bList K [.ref p] H Q := v_listL c (new_same h)
theorem v_listT' {p : Addr} {ys : List V} (c : SqT K H p ys) (h : ∀ q H', Same H H' → H q = none → H' q = some (.lst ys) → Q (.ref q) H') : bList K [.ref p] H Q := v_listT c (new_same h)
theorem v_listS' {l : List Nat} (z : l.length ≤ sizeLine) (h : ∀ q H', Same H H' → H q = none → H' q = some (.lst (l.map sg)) → Q (.ref q) H') : bListS [.str (S l)] H Q := v_listS z (new_same h)
theorem v_tupS' {l : List Nat} (z : l.length ≤ sizeLine) (h : ∀ q H', Same H H' → H q = none → H' q = some (.tup (l.map sg)) → Q (.ref q) H') : bTupS [.str (S l)] H Q := v_tupS z (new_same h)
theorem v_sortS' {a : Addr} {ws : List (List Nat)} (c : SqL K H a (ws.map strV)) (h : ∀ (us : List (List Nat)) q H', us.Perm ws → us.Pairwise (fun a b => ¬ b < a) → Same H H' → H q = none → H' q = some (.lst (us.map strV)) → Q (.ref q) H') : bSortS K [.ref a] H Q :=
  v_sortS c fun us p pm pw f => h us p _ pm pw ((Same.refl H).vnew f) f upd_same
theorem _root_.L2.Same.vlst {b : Addr} {H H' : Hp} {xs : List V} (x : Same H H') (h : SqL K H b xs) : SqL K H' b xs := by
  rcases h with (h | ⟨o, h⟩) | h
  · exact .inl (.inl (x b _ h))
  · exact .inl (.inr ⟨o, x b _ h⟩)
  · exact .inr h
/-- changes of a new object are no changes -/
theorem _root_.L2.Same.but {p : Addr} {H H1 H2 : Hp} (x : Same H H1) (n : H p = none) (b : But p H1 H2) : Same H H2 := fun c o e => b c o (ne_of_none e n) (x c o e)
end
end RC
namespace RC
open PySem PySem.Spec PyProof.Rows L2
local macro_rules | `(tactic| walk_at "vside") => `(tactic| first | assumption | exact rfl | omega | exact Nat.le_of_ble_eq_true rfl | exact SqL.of (by assumption) | exact SqT.of (by assumption) | exact SqL.of upd_same | exact SqT.of upd_same | exact upd_same | exact Rd.of (by assumption) | exact Rd.of upd_same | (rw [sizeLine_eq]; omega) | (simp only [List.length_append, List.length_cons, List.length_nil, List.length_map, sizeLine_eq]; omega))
local macro_rules | `(tactic| walk_at "v1") => `(tactic| first
  | (with_reducible first
    | refine v_seq ?_ | refine v_asg ?_ | refine v_ret ?_ | refine v_retN ?_ | refine v_next ?_ | refine v_drop ?_ | refine v_if ?_ | refine v_test ?_ | refine v_tB ?_ | refine v_bl ?_ | refine v_not ?_ | refine v_and ?_ | refine v_or ?_
    | refine v_andV ?_ | refine v_orV ?_ | refine v_notV ?_ | refine v_ifE ?_ | refine v_C ?_ | refine v_op ?_ | refine v_un ?_ | refine v_CB ?_ | refine v_CKw ?_ | refine v_nil ?_ | refine v_cons ?_ | refine v_call ?_ | refine v_tup ?_ | refine v_lst ?_
    | refine v_revT ?_ | refine v_sl ?_ | refine v_noPart ?_ | refine v_part ?_ | refine v_partI ?_ | refine v_add ?_ | refine v_sub ?_ | refine v_lt ?_ | refine v_le ?_ | refine v_gt ?_ | refine v_ge ?_ | refine v_neg ?_ | refine v_abs ?_ | refine v_int ?_
    | refine v_min2 ?_ | refine v_max2 ?_ | refine v_gSub ?_ | refine v_BM ?_ | refine v_BM0 ?_ | refine v_dput ?_ | refine v_dget ?_ | refine v_dnotin ?_ | refine v_din ?_ | refine v_for ?_ | refine v_iRng1 ?_ | refine v_iRng2 ?_ | refine v_iList ?_ | refine v_iTup ?_ | refine v_lc ?_ | refine v_yes ?_ | refine v_chain ?_ | refine v_M1 ?_ | refine v_M0 ?_ | refine v_isStr ?_ | refine v_start ?_ | refine v_leS ?_ | refine v_inS ?_ | refine v_iStr ?_ | refine v_isS ?_ | refine v_intB' ?_ | refine v_tru ?_ | refine v_iteT ?_ | refine v_iteF ?_ | refine v_iteNT ?_ | refine v_iteNF ?_ | refine v_iKeys ?_)
  | ((with_reducible refine' v_var ?k1 ?_); (case k1 => exact rfl))
  | ((with_reducible refine' v_gName ?k1 ?_); (case k1 => (dsimp only [List.set, L2.wipe, List.map]; try exact rfl)))
  | ((with_reducible refine' v_mul ?k1 ?_); (case k1 => walk_at "vside"))
  | ((with_reducible refine' v_div ?k1 ?_); (case k1 => walk_at "vside"))
  | ((with_reducible refine' v_mod ?k1 ?_); (case k1 => walk_at "vside"))
  | ((with_reducible refine' v_eq ?k1 ?_); (case k1 => exact rfl))
  | ((with_reducible refine' v_ne ?k1 ?_); (case k1 => exact rfl))
  | ((with_reducible refine' v_isi ?k1 ?k2 ?_); (case k1 => first | exact tyX_tup (by assumption) | exact .base (.int _) | exact .base (.bl _) | exact .base (.str _) | exact .base .non | exact .base (.lst (by assumption)) | exact .base (.tup (by assumption)) | exact .base (.dK (by assumption))); (case k2 => first | exact kit_int_int | exact kit_int_bool | exact kit_int_str | exact kit_int_tuple | exact kit_int_list | exact kit_int_dict | exact kit_bool_int | exact kit_bool_bool | exact kit_bool_str | exact kit_bool_tuple | exact kit_bool_list | exact kit_bool_dict | exact kit_str_int | exact kit_str_bool | exact kit_str_str | exact kit_str_tuple | exact kit_str_list | exact kit_str_dict | exact kit_tuple_int | exact kit_tuple_bool | exact kit_tuple_str | exact kit_tuple_tuple | exact kit_tuple_list | exact kit_tuple_dict | exact kit_list_int | exact kit_list_bool | exact kit_list_str | exact kit_list_tuple | exact kit_list_list | exact kit_list_dict | exact kit_dict_int | exact kit_dict_bool | exact kit_dict_str | exact kit_dict_tuple | exact kit_dict_list | exact kit_dict_dict | exact kit_NoneType_int | exact kit_NoneType_bool | exact kit_NoneType_str | exact kit_NoneType_tuple | exact kit_NoneType_list | exact kit_NoneType_dict))
  | ((with_reducible refine' v_truL ?k1 ?_); (case k1 => walk_at "vside"))
  | ((with_reducible refine' v_truT ?k1 ?_); (case k1 => walk_at "vside"))
  | ((with_reducible refine' v_maxD ?k1 ?_); (case k1 => walk_at "vside"))
  | ((with_reducible refine' v_minD ?k1 ?_); (case k1 => walk_at "vside"))
  | ((with_reducible refine' v_lenL ?k1 ?_); (case k1 => walk_at "vside"))
  | ((with_reducible refine' v_lenT ?k1 ?_); (case k1 => walk_at "vside"))
  | ((with_reducible refine' v_lenD ?k1 ?_); (case k1 => walk_at "vside"))
  | ((with_reducible refine' v_ixL ?k1 ?k2 ?_); (case k1 => walk_at "vside"); (case k2 => walk_at "vside"))
  | ((with_reducible refine' v_ixT ?k1 ?k2 ?_); (case k1 => walk_at "vside"); (case k2 => walk_at "vside"))
  | ((with_reducible refine' v_setL ?k1 ?k2 ?_); (case k1 => walk_at "vside"); (case k2 => walk_at "vside"))
  | ((with_reducible refine' v_isL ?k1 ?_); (case k1 => walk_at "vside"))
  | ((with_reducible refine' v_append ?k1 ?k2 ?_); (case k1 => walk_at "vside"); (case k2 => walk_at "vside"))
  | ((with_reducible refine' v_dputI ?k1 ?k2 ?_); (case k1 => walk_at "vside"); (case k2 => walk_at "vside"))
  | ((with_reducible refine' v_dgetI ?k1 ?k2 ?_); (case k1 => walk_at "vside"); (case k2 => walk_at "vside"))
  | ((with_reducible refine' v_dhasI ?k1 ?_); (case k1 => walk_at "vside"))
  | ((with_reducible refine' v_isqL ?k1 ?_); (case k1 => walk_at "vside"))
  | ((with_reducible refine' v_isqT ?k1 ?_); (case k1 => walk_at "vside"))
  | ((with_reducible refine' v_addS ?k1 ?_); (case k1 => walk_at "vside"))
  | ((with_reducible refine' v_lenSS ?k1 ?_); (case k1 => walk_at "vside"))
  | ((with_reducible refine' v_ixS ?k1 ?k2 ?_); (case k1 => walk_at "vside"); (case k2 => walk_at "vside"))
  | ((with_reducible refine' v_slS ?k1 ?_); (case k1 => walk_at "vside"))
  | ((with_reducible refine' v_idx ?k1 ?_); (case k1 => walk_at "vside"))
  | ((with_reducible refine' v_all ?k1 ?_); (case k1 => walk_at "vside"))
  | ((with_reducible refine' v_sum ?k1 ?_); (case k1 => walk_at "vside"))
  | ((with_reducible refine' v_rng1 ?k1 ?_); (case k1 => walk_at "vside"))
  | ((with_reducible refine' v_rng2 ?k1 ?_); (case k1 => walk_at "vside")))
local macro_rules | `(tactic| walk_at "vc") => `(tactic| repeat walk_at "v1")
local macro_rules | `(tactic| walk_at "vlen") => `(tactic| (intro vs H Q E h; (repeat' (obtain ⟨_, h⟩ := h)); first | (subst_vars; rfl) | (simp_all)))
def top (i : Nat) : Stmt := PySem.Challenge.pw_ringingchamber_k45_complete_lists.main.body.getD i (.Pass ⟨0, 0, 0, 0⟩)
/-- what the top has left -/
structure Tx (K : PySem.W.Frag) (mg : Str → Option Value) : Prop where
  d_is_word : HasDef K mg "is_word" (top 3)
  d_is_prefix_free : HasDef K mg "is_prefix_free" (top 4)
  d_powers_of : HasDef K mg "powers_of" (top 5)
  d_is_complete : HasDef K mg "is_complete" (top 6)
  d__law_cell : HasDef K mg "_law_cell" (top 8)
  d__law_pool : HasDef K mg "_law_pool" (top 9)
  d__law_draw : HasDef K mg "_law_draw" (top 10)
  d__law_some : HasDef K mg "_law_some" (top 11)
  d__law_bent : HasDef K mg "_law_bent" (top 12)
  d__law_spoil : HasDef K mg "_law_spoil" (top 13)
  d__law_leaves : HasDef K mg "_law_leaves" (top 14)
  d__law_split : HasDef K mg "_law_split" (top 15)
  d__law_list : HasDef K mg "_law_list" (top 16)
  d__law_bend : HasDef K mg "_law_bend" (top 17)
  d__law_right : HasDef K mg "_law_right" (top 18)
  d_law : HasDef K mg "law" (top 19)
  f_len : mg "len" = none
  f_abs : mg "abs" = none
  f_int : mg "int" = none
  f_range : mg "range" = none
  f_list : mg "list" = none
  f_tuple : mg "tuple" = none
  f_max : mg "max" = none
  f_isinstance : mg "isinstance" = none
  f_bool : mg "bool" = none
  f_str : mg "str" = none
  f_sum : mg "sum" = none
  f_sorted : mg "sorted" = none
  f_all : mg "all" = none
  c_MOST_WORDS : ∃ t, mg "MOST_WORDS" = some (.int 5000 t)
  c_MOST_LETTERS : ∃ t, mg "MOST_LETTERS" = some (.int 60 t)
section
variable {P : Program} {w : World} {K : PySem.W.Frag} {mg : Str → Option Value} {base : Heap}
/-- some number -/
def spLawCell (K : PySem.W.Frag) : Sp := fun vs H Q _ => ∃ (a : Addr) (ns : List Int) (k : Int), vs = [.ref a, .int k] ∧ SqL K H a (ns.map V.int) ∧ 0 ≤ k ∧ ∀ i : Int, Q (.int i) H
abbrev sLawCell : Stmt := top 8
theorem sc__law_cell : FnScope ["script", "k"] ["script", "k"] (defScope sLawCell) := ⟨rfl, rfl, rfl, by decide +kernel, rfl, by decide +kernel, by decide +kernel⟩
theorem ok__law_cell (T : Tx K mg) : Cal P w K mg base "_law_cell" 1 ["script", "k"] (spLawCell K) := by
  have sc := sc__law_cell
  refine Cal.of T.d__law_cell sc (fun _ _ _ _ _ _ us hl => match us, hl with | [_, _], _ => rfl) (by walk_at "vlen") (fun f cdv A outer s H vs Q E hr h => ?_)
  obtain ⟨a, ns, k, rfl, hS, hk, q⟩ := h
  refine ⟨_, (pss_cons
    (ps_if (pt_cmpR w_lt (pv 1) (pe_callB (k_len (K := K) rfl) rfl T.f_len PySem.boot_len (pa_cons (pv 0) pa_nil)) (nomark _)) (pss_one
      (ps_ret (pe_callB w_abs rfl T.f_abs (by decide +kernel) (pa_cons (pe_callTy w_int rfl T.f_int (by decide +kernel) (pa_cons (pe_ix (k_ixL (K := K) rfl) (pv 0) (pv 1) (fun _ _ => rfl)) pa_nil)) pa_nil)))) pss_nil)
    (pss_cons
    (ps_if (pt_cmpR op_eq (pe_callB (k_len (K := K) rfl) rfl T.f_len PySem.boot_len (pa_cons (pv 0) pa_nil)) pe_int (nomark _)) (pss_one
      (ps_ret pe_int)) pss_nil)
    (pss_one
    (ps_ret (pe_op w_mod (pe_callB w_abs rfl T.f_abs (by decide +kernel) (pa_cons (pe_callTy w_int rfl T.f_int (by decide +kernel) (pa_cons (pe_ix (k_ixL (K := K) rfl) (pv 0) (pe_op w_mod (pe_callTy w_int rfl T.f_int (by decide +kernel) (pa_cons (pv 1) pa_nil)) (pe_callB (k_len (K := K) rfl) rfl T.f_len PySem.boot_len (pa_cons (pv 0) pa_nil))) (fun _ _ => rfl)) pa_nil)) pa_nil)) pe_int))))), ?_⟩
  have s0 : ∀ v0 v1 : V, start ["script", "k"] [v0, v1] = [some v0, some v1] := fun _ _ => rfl
  rw [s0]
  walk_at "vc"
  refine v_dec (fun h => ?_) (fun h => ?_)
  · have ha := at_ints hk h
    walk_at "vc"
    exact q _
  · walk_at "vc"
    refine v_decI (fun h0 => ?_) (fun h0 => ?_)
    · walk_at "vc"
      exact q _
    · have hl : 0 < ((ns.map V.int).length : Int) := by omega
      have ha := at_ints (ns := ns) (Int.emod_nonneg k (by omega)) (Int.emod_lt_of_pos k hl)
      walk_at "vc"
      exact q _
/-- a pool of numbers -/
def PoolAt (H : Hp) (p : Addr) : Prop := ∃ a b c : Int, H p = some (.lst [.int a, .int b, .int c])
def spLawPool (K : PySem.W.Frag) : Sp := fun vs H Q _ => ∃ (a : Addr) (ns : List Int) (k : Int), vs = [.ref a, .int k] ∧ SqL K H a (ns.map V.int) ∧ 0 ≤ k ∧ k ≤ 1000 ∧ ∀ p H', H p = none → Same H H' → PoolAt H' p → Q (.ref p) H'
abbrev sLawPool : Stmt := top 9
theorem sc__law_pool : FnScope ["script", "k", "cell"] ["script", "k"] (defScope sLawPool) := ⟨rfl, rfl, rfl, by decide +kernel, rfl, by decide +kernel, by decide +kernel⟩
theorem ok__law_pool (T : Tx K mg) : Cal P w K mg base "_law_pool" 2 ["script", "k"] (spLawPool K) := by
  have sc := sc__law_pool
  refine Cal.of T.d__law_pool sc (fun _ _ _ _ _ _ us hl => match us, hl with | [_, _], _ => rfl) (by walk_at "vlen") (fun f cdv A outer s H vs Q E hr h => ?_)
  obtain ⟨a, ns, k, rfl, hS, hk, hk1, q⟩ := h
  refine ⟨_, (pss_cons
    (ps_set (i := 2) sc.nd rfl (Or.inl rfl) (pe_cal (ok__law_cell T) hr passL (pa_cons (pv 0) (pa_cons (pv 1) pa_nil))))
    (pss_cons
    (ps_if (pt_cmpR w_ge (pv 2) (pe_op w_pow pe_int pe_int) (nomark _)) (pss_one
      (ps_ret (pe_lst (pa_cons (pe_op w_sub (pv 2) (pe_op w_pow pe_int pe_int)) (pa_cons (pe_op w_mod (pe_callTy w_int rfl T.f_int (by decide +kernel) (pa_cons (pv 2) pa_nil)) pe_int) (pa_cons pe_int pa_nil)))))) pss_nil)
    (pss_one
    (ps_ret (pe_lst (pa_cons pe_int (pa_cons (pe_op w_add (pv 2) (pe_op w_mul pe_int (pe_op w_add (pv 1) pe_int))) (pa_cons pe_int pa_nil)))))))), ?_⟩
  have s0 : ∀ v0 v1 : V, start ["script", "k", "cell"] [v0, v1] = [some v0, some v1, none] := fun _ _ => rfl
  rw [s0]
  walk_at "vc"
  have cp : CPow 10 18 := by unfold CPow; decide
  refine ⟨a, ns, k, rfl, hS, hk, fun i => ?_⟩
  walk_at "vc"
  refine v_pow cp ?_
  walk_at "vc"
  refine v_dec (fun h => ?_) (fun h => ?_)
  · walk_at "vc"
    refine v_pow cp ?_
    walk_at "vc"
    refine ⟨Nat.le_of_ble_eq_true rfl, fun p hp => ?_⟩
    exact q p _ hp ((Same.refl H).vnew hp) ⟨_, _, _, upd_same⟩
  · walk_at "vc"
    refine ⟨Nat.le_of_ble_eq_true rfl, fun p hp => ?_⟩
    exact q p _ hp ((Same.refl H).vnew hp) ⟨_, _, _, upd_same⟩
def spLawDraw (K : PySem.W.Frag) : Sp := fun vs H Q _ => ∃ (p : Addr) (many : Int), vs = [.ref p, .int many] ∧ PoolAt H p ∧ 0 < many ∧ many < 2 ^ 30 ∧ ∀ v H', 0 ≤ v → v < many → But p H H' → PoolAt H' p → Q (.int v) H'
abbrev sLawDraw : Stmt := top 10
theorem sc__law_draw : FnScope ["pool", "many", "value", "mixed"] ["pool", "many"] (defScope sLawDraw) := ⟨rfl, rfl, rfl, by decide +kernel, rfl, by decide +kernel, by decide +kernel⟩
theorem ok__law_draw (T : Tx K mg) : Cal P w K mg base "_law_draw" 1 ["pool", "many"] (spLawDraw K) := by
  have sc := sc__law_draw
  refine Cal.of T.d__law_draw sc (fun _ _ _ _ _ _ us hl => match us, hl with | [_, _], _ => rfl) (by walk_at "vlen") (fun f cdv A outer s H vs Q E hr h => ?_)
  obtain ⟨p, many, rfl, ⟨a, b, c, hp⟩, h0, h1, q⟩ := h
  refine ⟨_, (pss_cons
    (ps_asg (pe_op w_add (pe_ix (k_ixL (K := K) rfl) (pv 0) pe_int (fun _ _ => rfl)) pe_int) (pg_sub (pv 0) pe_int set_list))
    (pss_cons
    (ps_if (pt_cmpR w_gt (pe_ix (k_ixL (K := K) rfl) (pv 0) pe_int (fun _ _ => rfl)) pe_int (nomark _)) (pss_cons
      (ps_set (i := 2) sc.nd rfl (Or.inl rfl) (pe_op w_mod (pe_callTy w_int rfl T.f_int (by decide +kernel) (pa_cons (pe_ix (k_ixL (K := K) rfl) (pv 0) pe_int (fun _ _ => rfl)) pa_nil)) (pv 1)))
      (pss_cons
      (ps_asg (pe_op w_fdiv (pe_ix (k_ixL (K := K) rfl) (pv 0) pe_int (fun _ _ => rfl)) (pv 1)) (pg_sub (pv 0) pe_int set_list))
      (pss_one
      (ps_ret (pv 2))))) pss_nil)
    (pss_cons
    (ps_set (i := 3) sc.nd rfl (Or.inl rfl) (pe_op w_mod (pe_callTy w_int rfl T.f_int (by decide +kernel) (pa_cons (pe_op w_add (pe_ix (k_ixL (K := K) rfl) (pv 0) pe_int (fun _ _ => rfl)) (pe_op w_mul pe_int (pe_ix (k_ixL (K := K) rfl) (pv 0) pe_int (fun _ _ => rfl)))) pa_nil)) pe_int))
    (pss_cons
    (ps_set (i := 3) sc.nd rfl (Or.inl rfl) (pe_op w_mod (pe_callTy w_int rfl T.f_int (by decide +kernel) (pa_cons (pe_op w_add (pe_op w_add (pe_op w_mul (pv 3) (pv 3)) (pe_op w_mul pe_int (pe_ix (k_ixL (K := K) rfl) (pv 0) pe_int (fun _ _ => rfl)))) (pe_ix (k_ixL (K := K) rfl) (pv 0) pe_int (fun _ _ => rfl))) pa_nil)) pe_int))
    (pss_cons
    (ps_set (i := 3) sc.nd rfl (Or.inl rfl) (pe_op w_mod (pe_callTy w_int rfl T.f_int (by decide +kernel) (pa_cons (pe_op w_add (pe_op w_mul (pv 3) (pv 3)) pe_int) pa_nil)) pe_int))
    (pss_one
    (ps_ret (pe_op w_mod (pe_callTy w_int rfl T.f_int (by decide +kernel) (pa_cons (pe_op w_fdiv (pv 3) pe_int) pa_nil)) (pv 1))))))))), ?_⟩
  have s0 : ∀ v0 v1 : V, start ["pool", "many", "value", "mixed"] [v0, v1] = [some v0, some v1, none, none] := fun _ _ => rfl
  rw [s0]
  walk_at "vc"
  refine v_dec (fun h => ?_) (fun h => ?_)
  · walk_at "vc"
    exact q _ _ (Int.emod_nonneg _ (by omega)) (Int.emod_lt_of_pos _ h0) (But.put But.write) ⟨_, _, _, upd_same⟩
  · walk_at "vc"
    exact q _ _ (Int.emod_nonneg _ (by omega)) (Int.emod_lt_of_pos _ h0) But.write ⟨_, _, _, upd_same⟩
theorem v_draw {K : PySem.W.Frag} {H : Hp} {p : Addr} {many : Int} {Q : VK} {E : XK} (hp : PoolAt H p) (h0 : 0 < many ∧ many < 2 ^ 30) (k : ∀ v H', 0 ≤ v → v < many → But p H H' → PoolAt H' p → Q (.int v) H') : spLawDraw K [.ref p, .int many] H Q E :=
  ⟨p, many, rfl, hp, h0.1, h0.2, k⟩
theorem PoolAt.ne {H : Hp} {p l : Addr} (h : PoolAt H p) (n : H l = none) : l ≠ p := fun e => by
  obtain ⟨a, b, c, h⟩ := h
  rw [e, h] at n
  cases n
theorem PoolAt.set {H : Hp} {p l : Addr} {o : HO} (h : PoolAt H p) (n : l ≠ p) : PoolAt (L2.upd H l o) p := by
  obtain ⟨a, b, c, h⟩ := h
  exact ⟨a, b, c, by rw [upd_ne n.symm]; exact h⟩
/-- a written list of ints at an open place -/
theorem at_some {ns : List Int} {v : Int} (h0 : 0 ≤ v) (h1 : v < ns.length) : ∃ n, atI (ns.map V.int) v = some (V.int n) ∧ n ∈ ns := by
  refine ⟨ns.getD v.toNat 0, at_ints h0 (by rw [List.length_map]; exact h1), ?_⟩
  rw [List.getD_eq_getElem?_getD, List.getElem?_eq_getElem (by omega : v.toNat < ns.length)]
  exact List.getElem_mem _
end
end RC
namespace RC
open PySem PySem.Spec PyProof.Rows L2
local macro_rules | `(tactic| walk_at "vside") => `(tactic| first | assumption | exact rfl | omega | exact Nat.le_of_ble_eq_true rfl | exact SqL.of (by assumption) | exact SqT.of (by assumption) | exact SqL.of upd_same | exact SqT.of upd_same | exact upd_same | exact Rd.of (by assumption) | exact Rd.of upd_same | (rw [sizeLine_eq]; omega) | (simp only [List.length_append, List.length_cons, List.length_nil, List.length_map, sizeLine_eq]; omega))
local macro_rules | `(tactic| walk_at "v1") => `(tactic| first
  | (with_reducible first
    | refine v_seq ?_ | refine v_asg ?_ | refine v_ret ?_ | refine v_retN ?_ | refine v_next ?_ | refine v_drop ?_ | refine v_if ?_ | refine v_test ?_ | refine v_tB ?_ | refine v_bl ?_ | refine v_not ?_ | refine v_and ?_ | refine v_or ?_
    | refine v_andV ?_ | refine v_orV ?_ | refine v_notV ?_ | refine v_ifE ?_ | refine v_C ?_ | refine v_op ?_ | refine v_un ?_ | refine v_CB ?_ | refine v_CKw ?_ | refine v_nil ?_ | refine v_cons ?_ | refine v_call ?_ | refine v_tup ?_ | refine v_lst ?_
    | refine v_revT ?_ | refine v_sl ?_ | refine v_noPart ?_ | refine v_part ?_ | refine v_partI ?_ | refine v_add ?_ | refine v_sub ?_ | refine v_lt ?_ | refine v_le ?_ | refine v_gt ?_ | refine v_ge ?_ | refine v_neg ?_ | refine v_abs ?_ | refine v_int ?_
    | refine v_min2 ?_ | refine v_max2 ?_ | refine v_gSub ?_ | refine v_BM ?_ | refine v_BM0 ?_ | refine v_dput ?_ | refine v_dget ?_ | refine v_dnotin ?_ | refine v_din ?_ | refine v_for ?_ | refine v_iRng1 ?_ | refine v_iRng2 ?_ | refine v_iList ?_ | refine v_iTup ?_ | refine v_lc ?_ | refine v_yes ?_ | refine v_chain ?_ | refine v_M1 ?_ | refine v_M0 ?_ | refine v_isStr ?_ | refine v_start ?_ | refine v_leS ?_ | refine v_inS ?_ | refine v_iStr ?_ | refine v_isS ?_ | refine v_intB' ?_ | refine v_tru ?_ | refine v_iteT ?_ | refine v_iteF ?_ | refine v_iteNT ?_ | refine v_iteNF ?_ | refine v_iKeys ?_)
  | ((with_reducible refine' v_var ?k1 ?_); (case k1 => exact rfl))
  | ((with_reducible refine' v_gName ?k1 ?_); (case k1 => (dsimp only [List.set, L2.wipe, List.map]; try exact rfl)))
  | ((with_reducible refine' v_mul ?k1 ?_); (case k1 => walk_at "vside"))
  | ((with_reducible refine' v_div ?k1 ?_); (case k1 => walk_at "vside"))
  | ((with_reducible refine' v_mod ?k1 ?_); (case k1 => walk_at "vside"))
  | ((with_reducible refine' v_eq ?k1 ?_); (case k1 => exact rfl))
  | ((with_reducible refine' v_ne ?k1 ?_); (case k1 => exact rfl))
  | ((with_reducible refine' v_isi ?k1 ?k2 ?_); (case k1 => first | exact tyX_tup (by assumption) | exact .base (.int _) | exact .base (.bl _) | exact .base (.str _) | exact .base .non | exact .base (.lst (by assumption)) | exact .base (.tup (by assumption)) | exact .base (.dK (by assumption))); (case k2 => first | exact kit_int_int | exact kit_int_bool | exact kit_int_str | exact kit_int_tuple | exact kit_int_list | exact kit_int_dict | exact kit_bool_int | exact kit_bool_bool | exact kit_bool_str | exact kit_bool_tuple | exact kit_bool_list | exact kit_bool_dict | exact kit_str_int | exact kit_str_bool | exact kit_str_str | exact kit_str_tuple | exact kit_str_list | exact kit_str_dict | exact kit_tuple_int | exact kit_tuple_bool | exact kit_tuple_str | exact kit_tuple_tuple | exact kit_tuple_list | exact kit_tuple_dict | exact kit_list_int | exact kit_list_bool | exact kit_list_str | exact kit_list_tuple | exact kit_list_list | exact kit_list_dict | exact kit_dict_int | exact kit_dict_bool | exact kit_dict_str | exact kit_dict_tuple | exact kit_dict_list | exact kit_dict_dict | exact kit_NoneType_int | exact kit_NoneType_bool | exact kit_NoneType_str | exact kit_NoneType_tuple | exact kit_NoneType_list | exact kit_NoneType_dict))
  | ((with_reducible refine' v_truL ?k1 ?_); (case k1 => walk_at "vside"))
  | ((with_reducible refine' v_truT ?k1 ?_); (case k1 => walk_at "vside"))
  | ((with_reducible refine' v_maxD ?k1 ?_); (case k1 => walk_at "vside"))
  | ((with_reducible refine' v_minD ?k1 ?_); (case k1 => walk_at "vside"))
  | ((with_reducible refine' v_lenL ?k1 ?_); (case k1 => walk_at "vside"))
  | ((with_reducible refine' v_lenT ?k1 ?_); (case k1 => walk_at "vside"))
  | ((with_reducible refine' v_lenD ?k1 ?_); (case k1 => walk_at "vside"))
  | ((with_reducible refine' v_ixL ?k1 ?k2 ?_); (case k1 => walk_at "vside"); (case k2 => walk_at "vside"))
  | ((with_reducible refine' v_ixT ?k1 ?k2 ?_); (case k1 => walk_at "vside"); (case k2 => walk_at "vside"))
  | ((with_reducible refine' v_setL ?k1 ?k2 ?_); (case k1 => walk_at "vside"); (case k2 => walk_at "vside"))
  | ((with_reducible refine' v_isL ?k1 ?_); (case k1 => walk_at "vside"))
  | ((with_reducible refine' v_append ?k1 ?k2 ?_); (case k1 => walk_at "vside"); (case k2 => walk_at "vside"))
  | ((with_reducible refine' v_dputI ?k1 ?k2 ?_); (case k1 => walk_at "vside"); (case k2 => walk_at "vside"))
  | ((with_reducible refine' v_dgetI ?k1 ?k2 ?_); (case k1 => walk_at "vside"); (case k2 => walk_at "vside"))
  | ((with_reducible refine' v_dhasI ?k1 ?_); (case k1 => walk_at "vside"))
  | ((with_reducible refine' v_isqL ?k1 ?_); (case k1 => walk_at "vside"))
  | ((with_reducible refine' v_isqT ?k1 ?_); (case k1 => walk_at "vside"))
  | ((with_reducible refine' v_addS ?k1 ?_); (case k1 => walk_at "vside"))
  | ((with_reducible refine' v_lenSS ?k1 ?_); (case k1 => walk_at "vside"))
  | ((with_reducible refine' v_ixS ?k1 ?k2 ?_); (case k1 => walk_at "vside"); (case k2 => walk_at "vside"))
  | ((with_reducible refine' v_slS ?k1 ?_); (case k1 => walk_at "vside"))
  | ((with_reducible refine' v_idx ?k1 ?_); (case k1 => walk_at "vside"))
  | ((with_reducible refine' v_all ?k1 ?_); (case k1 => walk_at "vside"))
  | ((with_reducible refine' v_sum ?k1 ?_); (case k1 => walk_at "vside"))
  | ((with_reducible refine' v_rng1 ?k1 ?_); (case k1 => walk_at "vside"))
  | ((with_reducible refine' v_rng2 ?k1 ?_); (case k1 => walk_at "vside")))
local macro_rules | `(tactic| walk_at "vc") => `(tactic| repeat walk_at "v1")
local macro_rules | `(tactic| walk_at "vlen") => `(tactic| (intro vs H Q E h; (repeat' (obtain ⟨_, h⟩ := h)); first | (subst_vars; rfl) | (simp_all)))
open K45
section
variable {P : Program} {w : World} {K : PySem.W.Frag} {mg : Str → Option Value} {base : Heap}
theorem take_map_next {α : Type} {l : List α} {f : α → V} {i : Nat} {c : α} (h : l[i]? = some c) : (l.take i).map f ++ [f c] = (l.take (i + 1)).map f := by
  rw [List.take_succ, h]
  simp
/-- the end of a comprehension's turn -/
theorem lc_step {α : Type} {H1 : Hp} {D : Addr} {l : List α} {f : α → V} {i : Nat} {c : α} (h : l[i]? = some c) (z : l.length ≤ 1000000) :
    ∃ acc, (upd H1 D (.lst ((l.take i).map f))) D = some (.lst acc) ∧ acc.length < sizeLine ∧ upd (upd H1 D (.lst ((l.take i).map f))) D (.lst (acc ++ [f c])) = upd H1 D (.lst ((l.take (i + 1)).map f)) := by
  refine ⟨_, upd_same, ?_, ?_⟩
  · rw [List.length_map, List.length_take, sizeLine_eq]
    omega
  · rw [upd_upd, take_map_next h]
/-- what stands in a tuple -/
inductive Elt (K : PySem.W.Frag) (H : Hp) : V → Prop
  | str (u : List Nat) (z : u.length ≤ 100000) : Elt K H (.str (S u))
  | int (i : Int) : Elt K H (.int i)
  | tup (a : Addr) (xs : List V) (h : SqT K H a xs) : Elt K H (.ref a)
/-- a told value -/
inductive Told (K : PySem.W.Frag) (H : Hp) : V → Option (List V) → Prop
  | str (u : List Nat) (z : u.length ≤ 100000) : Told K H (.str (S u)) none
  | int (i : Int) : Told K H (.int i) none
  | tup (a : Addr) (xs : List V) (h : SqT K H a xs) (z : xs.length ≤ 100000) (e : ∀ v ∈ xs, Elt K H v) : Told K H (.ref a) (some xs)
theorem Elt.same {H H' : Hp} {v : V} (s : Same H H') (h : Elt K H v) : Elt K H' v := by
  cases h with
  | str u z => exact .str u z
  | int i => exact .int i
  | tup a xs h => exact .tup a xs (s.vtup h)
theorem Told.same {H H' : Hp} {v : V} {o : Option (List V)} (s : Same H H') (h : Told K H v o) : Told K H' v o := by
  cases h with
  | str u z => exact .str u z
  | int i => exact .int i
  | tup a xs h z e => exact .tup a xs (s.vtup h) z fun v hv => (e v hv).same s
def IsWord (L : List Nat) (v : V) : Prop := ∃ u, v = .str (S u) ∧ u.length ≤ 60 ∧ In L u
def spIsWord (K : PySem.W.Frag) : Sp := fun vs H Q _ => ∃ (x : V) (L : List Nat), vs = [x, .str (S L)] ∧ Elt K H x ∧ ∀ b H', (b = true ↔ IsWord L x) → Same H H' → Q (.bl b) H'
abbrev sIsWord : Stmt := top 3
theorem sc_is_word : FnScope ["told", "letters", "letter"] ["told", "letters"] (defScope sIsWord) := ⟨rfl, rfl, rfl, by decide +kernel, rfl, by decide +kernel, by decide +kernel⟩
theorem ok_is_word (T : Tx K mg) : Cal P w K mg base "is_word" 1 ["told", "letters"] (spIsWord K) := by
  have sc := sc_is_word
  refine Cal.of T.d_is_word sc (fun _ _ _ _ _ _ us hl => match us, hl with | [_, _], _ => rfl) (by walk_at "vlen") (fun f cdv A outer s H vs Q E hr h => ?_)
  obtain ⟨x, L, rfl, hx, q⟩ := h
  -- cells: ['letters']
  refine ⟨_, (pss_cons
    (ps_if (PW.pt (pw_or (pt_not (pt_val (pe_callB (k_isi (K := K) rfl) rfl T.f_isinstance boot_isinstance (pa_cons (pv 0) (pa_cons (pe_bltn (v := .ty "str") (u := .type "str") rfl T.f_str (by decide +kernel) rfl) pa_nil))))) (pw_or1 (pt_cmpR w_gt (pe_callB w_lenS rfl T.f_len PySem.boot_len (pa_cons (pv 0) pa_nil)) (pe_cInt T.c_MOST_LETTERS) (nomark _))))) (pss_one
      (ps_ret pe_bl)) pss_nil)
    (pss_one
    (ps_ret (pe_callB (k_all (K := K) rfl rfl) rfl T.f_all (by decide +kernel) (pa_cons (pe_lc (own := [("letter", 2)]) rfl sc.nd (pi_str (pv 0)) (blkOk_by (N := ["told", "letters", "letter"]) (sc := defScope sIsWord) (by decide +kernel)) (fun _ _ _ _ _ => (pg_name (i := 2) sc.nd rfl (Or.inl rfl))) (fun _ _ _ _ _ => pts_nil) (fun _ _ _ _ _ => (pe_cmpR w_inS (pv 2) (pv 1) rfl))) pa_nil))))), ?_⟩
  have s0 : ∀ v0 v1 : V, start ["told", "letters", "letter"] [v0, v1] = [some v0, some v1, none] := fun _ _ => rfl
  rw [s0]
  walk_at "vc"
  cases hx with
  | int i =>
    walk_at "vc"
    exact q _ _ ⟨fun h => (by cases h), fun ⟨u, e, _⟩ => (by cases e)⟩ (Same.refl H)
  | tup a xs hS =>
    walk_at "vc"
    exact q _ _ ⟨fun h => (by cases h), fun ⟨u, e, _⟩ => (by cases e)⟩ (Same.refl H)
  | str u z =>
    walk_at "vc"
    refine v_dec (fun h => ?_) (fun h => ?_)
    · walk_at "vc"
      refine q _ _ ⟨fun h => (by cases h), fun ⟨u', e, l, _⟩ => ?_⟩ (Same.refl H)
      have := S_inj (V.str.inj e)
      subst this
      omega
    · walk_at "vc"
      intro D hD
      refine lc_s (fun i H' => H' = upd H D (.lst ((u.take i).map fun c => V.bl (decide (c ∈ L))))) (by simp) (fun i c H' hi e => ?_) (fun H' e => ?_)
      · subst e
        walk_at "vc"
        refine ⟨rfl, ?_⟩
        walk_at "vc"
        exact lc_step hi (by omega)
      · subst e
        rw [List.take_length]
        refine v_all (bs := u.map fun c => decide (c ∈ L)) (SqL.of (by rw [upd_same, List.map_map]; rfl)) ?_
        refine q _ _ ⟨fun h => ⟨u, rfl, by omega, fun c hc => ?_⟩, fun ⟨u', e, l, m⟩ => ?_⟩ ((Same.refl H).vnew hD)
        · rw [List.all_map, List.all_eq_true] at h
          exact of_decide_eq_true (h c hc)
        · have := S_inj (V.str.inj e)
          subst this
          rw [List.all_map, List.all_eq_true]
          exact fun c hc => decide_eq_true (m c hc)
end
end RC
namespace RC
open PySem PySem.Spec PyProof.Rows L2
local macro_rules | `(tactic| walk_at "vside") => `(tactic| first | assumption | exact rfl | omega | exact Nat.le_of_ble_eq_true rfl | exact SqL.of (by assumption) | exact SqT.of (by assumption) | exact SqL.of upd_same | exact SqT.of upd_same | exact upd_same | exact Rd.of (by assumption) | exact Rd.of upd_same | (rw [sizeLine_eq]; omega) | (simp only [List.length_append, List.length_cons, List.length_nil, List.length_map, sizeLine_eq]; omega))
local macro_rules | `(tactic| walk_at "v1") => `(tactic| first
  | (with_reducible first
    | refine v_seq ?_ | refine v_asg ?_ | refine v_ret ?_ | refine v_retN ?_ | refine v_next ?_ | refine v_drop ?_ | refine v_if ?_ | refine v_test ?_ | refine v_tB ?_ | refine v_bl ?_ | refine v_not ?_ | refine v_and ?_ | refine v_or ?_
    | refine v_andV ?_ | refine v_orV ?_ | refine v_notV ?_ | refine v_ifE ?_ | refine v_C ?_ | refine v_op ?_ | refine v_un ?_ | refine v_CB ?_ | refine v_CKw ?_ | refine v_nil ?_ | refine v_cons ?_ | refine v_call ?_ | refine v_tup ?_ | refine v_lst ?_
    | refine v_revT ?_ | refine v_sl ?_ | refine v_noPart ?_ | refine v_part ?_ | refine v_partI ?_ | refine v_add ?_ | refine v_sub ?_ | refine v_lt ?_ | refine v_le ?_ | refine v_gt ?_ | refine v_ge ?_ | refine v_neg ?_ | refine v_abs ?_ | refine v_int ?_
    | refine v_min2 ?_ | refine v_max2 ?_ | refine v_gSub ?_ | refine v_BM ?_ | refine v_BM0 ?_ | refine v_dput ?_ | refine v_dget ?_ | refine v_dnotin ?_ | refine v_din ?_ | refine v_for ?_ | refine v_iRng1 ?_ | refine v_iRng2 ?_ | refine v_iList ?_ | refine v_iTup ?_ | refine v_lc ?_ | refine v_yes ?_ | refine v_chain ?_ | refine v_M1 ?_ | refine v_M0 ?_ | refine v_isStr ?_ | refine v_start ?_ | refine v_leS ?_ | refine v_inS ?_ | refine v_iStr ?_ | refine v_isS ?_ | refine v_intB' ?_ | refine v_tru ?_ | refine v_iteT ?_ | refine v_iteF ?_ | refine v_iteNT ?_ | refine v_iteNF ?_ | refine v_iKeys ?_)
  | ((with_reducible refine' v_var ?k1 ?_); (case k1 => exact rfl))
  | ((with_reducible refine' v_gName ?k1 ?_); (case k1 => (dsimp only [List.set, L2.wipe, List.map]; try exact rfl)))
  | ((with_reducible refine' v_mul ?k1 ?_); (case k1 => walk_at "vside"))
  | ((with_reducible refine' v_div ?k1 ?_); (case k1 => walk_at "vside"))
  | ((with_reducible refine' v_mod ?k1 ?_); (case k1 => walk_at "vside"))
  | ((with_reducible refine' v_eq ?k1 ?_); (case k1 => exact rfl))
  | ((with_reducible refine' v_ne ?k1 ?_); (case k1 => exact rfl))
  | ((with_reducible refine' v_isi ?k1 ?k2 ?_); (case k1 => first | exact tyX_tup (by assumption) | exact .base (.int _) | exact .base (.bl _) | exact .base (.str _) | exact .base .non | exact .base (.lst (by assumption)) | exact .base (.tup (by assumption)) | exact .base (.dK (by assumption))); (case k2 => first | exact kit_int_int | exact kit_int_bool | exact kit_int_str | exact kit_int_tuple | exact kit_int_list | exact kit_int_dict | exact kit_bool_int | exact kit_bool_bool | exact kit_bool_str | exact kit_bool_tuple | exact kit_bool_list | exact kit_bool_dict | exact kit_str_int | exact kit_str_bool | exact kit_str_str | exact kit_str_tuple | exact kit_str_list | exact kit_str_dict | exact kit_tuple_int | exact kit_tuple_bool | exact kit_tuple_str | exact kit_tuple_tuple | exact kit_tuple_list | exact kit_tuple_dict | exact kit_list_int | exact kit_list_bool | exact kit_list_str | exact kit_list_tuple | exact kit_list_list | exact kit_list_dict | exact kit_dict_int | exact kit_dict_bool | exact kit_dict_str | exact kit_dict_tuple | exact kit_dict_list | exact kit_dict_dict | exact kit_NoneType_int | exact kit_NoneType_bool | exact kit_NoneType_str | exact kit_NoneType_tuple | exact kit_NoneType_list | exact kit_NoneType_dict))
  | ((with_reducible refine' v_truL ?k1 ?_); (case k1 => walk_at "vside"))
  | ((with_reducible refine' v_truT ?k1 ?_); (case k1 => walk_at "vside"))
  | ((with_reducible refine' v_maxD ?k1 ?_); (case k1 => walk_at "vside"))
  | ((with_reducible refine' v_minD ?k1 ?_); (case k1 => walk_at "vside"))
  | ((with_reducible refine' v_lenL ?k1 ?_); (case k1 => walk_at "vside"))
  | ((with_reducible refine' v_lenT ?k1 ?_); (case k1 => walk_at "vside"))
  | ((with_reducible refine' v_lenD ?k1 ?_); (case k1 => walk_at "vside"))
  | ((with_reducible refine' v_ixL ?k1 ?k2 ?_); (case k1 => walk_at "vside"); (case k2 => walk_at "vside"))
  | ((with_reducible refine' v_ixT ?k1 ?k2 ?_); (case k1 => walk_at "vside"); (case k2 => walk_at "vside"))
  | ((with_reducible refine' v_setL ?k1 ?k2 ?_); (case k1 => walk_at "vside"); (case k2 => walk_at "vside"))
  | ((with_reducible refine' v_isL ?k1 ?_); (case k1 => walk_at "vside"))
  | ((with_reducible refine' v_append ?k1 ?k2 ?_); (case k1 => walk_at "vside"); (case k2 => walk_at "vside"))
  | ((with_reducible refine' v_dputI ?k1 ?k2 ?_); (case k1 => walk_at "vside"); (case k2 => walk_at "vside"))
  | ((with_reducible refine' v_dgetI ?k1 ?k2 ?_); (case k1 => walk_at "vside"); (case k2 => walk_at "vside"))
  | ((with_reducible refine' v_dhasI ?k1 ?_); (case k1 => walk_at "vside"))
  | ((with_reducible refine' v_isqL ?k1 ?_); (case k1 => walk_at "vside"))
  | ((with_reducible refine' v_isqT ?k1 ?_); (case k1 => walk_at "vside"))
  | ((with_reducible refine' v_addS ?k1 ?_); (case k1 => walk_at "vside"))
  | ((with_reducible refine' v_lenSS ?k1 ?_); (case k1 => walk_at "vside"))
  | ((with_reducible refine' v_ixS ?k1 ?k2 ?_); (case k1 => walk_at "vside"); (case k2 => walk_at "vside"))
  | ((with_reducible refine' v_slS ?k1 ?_); (case k1 => walk_at "vside"))
  | ((with_reducible refine' v_idx ?k1 ?_); (case k1 => walk_at "vside"))
  | ((with_reducible refine' v_all ?k1 ?_); (case k1 => walk_at "vside"))
  | ((with_reducible refine' v_sum ?k1 ?_); (case k1 => walk_at "vside"))
  | ((with_reducible refine' v_rng1 ?k1 ?_); (case k1 => walk_at "vside"))
  | ((with_reducible refine' v_rng2 ?k1 ?_); (case k1 => walk_at "vside")))
local macro_rules | `(tactic| walk_at "vc") => `(tactic| repeat walk_at "v1")
local macro_rules | `(tactic| walk_at "vlen") => `(tactic| (intro vs H Q E h; (repeat' (obtain ⟨_, h⟩ := h)); first | (subst_vars; rfl) | (simp_all)))
open K45
section
variable {P : Program} {w : World} {K : PySem.W.Frag} {mg : Str → Option Value} {base : Heap}
theorem at_tupS {ws : List (List Nat)} {i : Int} {u : List Nat} (h0 : 0 ≤ i) (h : ws[i.toNat]? = some u) : atI (ws.map strV) i = some (.str (S u)) :=
  at_get h0 (by rw [List.getElem?_map, h]; rfl)
def spIsPrefixFree (K : PySem.W.Frag) : Sp := fun vs H Q _ => ∃ (a : Addr) (ws : List (List Nat)), vs = [.ref a] ∧ SqT K H a (ws.map strV) ∧ ws.length ≤ 100000 ∧ (∀ u ∈ ws, u.length ≤ 100000) ∧ ∀ b, (b = true ↔ Pf ws) → Q (.bl b) H
abbrev sIsPrefixFree : Stmt := top 4
theorem sc_is_prefix_free : FnScope ["words", "number", "before"] ["words"] (defScope sIsPrefixFree) := ⟨rfl, rfl, rfl, by decide +kernel, rfl, by decide +kernel, by decide +kernel⟩
theorem ok_is_prefix_free (T : Tx K mg) : Cal P w K mg base "is_prefix_free" 1 ["words"] (spIsPrefixFree K) := by
  have sc := sc_is_prefix_free
  refine Cal.of T.d_is_prefix_free sc (fun _ _ _ _ _ _ us hl => match us, hl with | [_], _ => rfl) (by walk_at "vlen") (fun f cdv A outer s H vs Q E hr h => ?_)
  obtain ⟨a, ws, rfl, hS, hz, hl, q⟩ := h
  refine ⟨_, (pss_cons
    (ps_for (passes_of rfl) rfl (pi_range2 rfl T.f_range (pa_cons pe_int (pa_cons (pe_callB (k_len (K := K) rfl) rfl T.f_len PySem.boot_len (pa_cons (pv 0) pa_nil)) pa_nil))) (pg_name (i := 1) sc.nd rfl (Or.inl rfl)) (pss_cons
      (ps_set (i := 2) sc.nd rfl (Or.inl rfl) (pe_ix (k_ixT (K := K) rfl) (pv 0) (pe_op w_sub (pv 1) pe_int) (fun _ _ => rfl)))
      (pss_one
      (ps_if (PW.pt (pw_or (pt_cmpR w_leS (pe_ix (k_ixT (K := K) rfl) (pv 0) (pv 1) (fun _ _ => rfl)) (pv 2) (nomark _)) (pw_or1 (pt_val (pe_startS (pe_ix (k_ixT (K := K) rfl) (pv 0) (pv 1) (fun _ _ => rfl)) (pv 2)))))) (pss_one
        (ps_ret pe_bl)) pss_nil))))
    (pss_one
    (ps_ret pe_bl))), ?_⟩
  have s0 : ∀ v0 : V, start ["words", "number", "before"] [v0] = [some v0, none, none] := fun _ => rfl
  rw [s0]
  walk_at "vc"
  rw [List.length_map]
  refine loop_range (fun i σ H' => H' = H ∧ (∃ u v, σ = [some (.ref a), u, v]) ∧ (i = 0 ∨ i + 1 ≤ ws.length) ∧ ∀ j x y, j < i → ws[j]? = some x → ws[j + 1]? = some y → x < y ∧ ¬ x <+: y) ⟨rfl, ⟨none, none, rfl⟩, .inl rfl, fun j x y h => absurd h (Nat.not_lt_zero _)⟩ ?_ ?_
  · rintro i σ H' hi ⟨rfl, ⟨u, v, rfl⟩, h0, hp⟩
    have hi' : i + 1 < ws.length := by omega
    obtain ⟨x, hx⟩ : ∃ x, ws[i]? = some x := ⟨_, List.getElem?_eq_getElem (by omega : i < ws.length)⟩
    obtain ⟨y, hy⟩ : ∃ y, ws[i + 1]? = some y := ⟨_, List.getElem?_eq_getElem hi'⟩
    have lx := hl x (List.mem_of_getElem? hx)
    have ly := hl y (List.mem_of_getElem? hy)
    have e1 : atI (ws.map strV) (1 + (i : Int) - 1) = some (.str (S x)) := at_tupS (by omega) (by rw [show (1 + (i : Int) - 1).toNat = i by omega]; exact hx)
    have e2 : atI (ws.map strV) (1 + (i : Int)) = some (.str (S y)) := at_tupS (by omega) (by rw [show (1 + (i : Int)).toNat = i + 1 by omega]; exact hy)
    walk_at "vc"
    refine v_decN (fun h1 => ?_) (fun h1 => ?_)
    · walk_at "vc"
      refine q _ ⟨fun h => (by cases h), fun h => absurd (h i x y hx hy).1 h1⟩
    · walk_at "vc"
      refine v_dec (fun h2 => ?_) (fun h2 => ?_)
      · walk_at "vc"
        refine q _ ⟨fun h => (by cases h), fun h => absurd h2 (h i x y hx hy).2⟩
      · walk_at "vc"
        refine ⟨rfl, ⟨_, _, rfl⟩, .inr (by omega), fun j x' y' hj e3 e4 => ?_⟩
        rcases Nat.lt_succ_iff_lt_or_eq.mp hj with g | g
        · exact hp j x' y' g e3 e4
        · subst g
          rw [hx] at e3
          rw [hy] at e4
          cases e3
          cases e4
          exact ⟨h1, h2⟩
  · rintro σ H' ⟨rfl, ⟨u, v, rfl⟩, h0, hp⟩
    walk_at "vc"
    refine q _ ⟨fun _ j x y e1 e2 => hp j x y ?_ e1 e2, fun _ => rfl⟩
    have := (List.getElem?_eq_some_iff.mp e2).1
    omega
def powL (b : Int) : List V := (List.range 61).map fun i => V.int (b ^ i)
theorem at_pow {b k : Int} (h0 : 0 ≤ k) (h1 : k ≤ 60) : atI (powL b) k = some (.int (b ^ k.toNat)) := by
  refine at_get h0 ?_
  unfold powL
  rw [List.getElem?_map, List.getElem?_range (by omega)]
  rfl
def spPowersOf (K : PySem.W.Frag) : Sp := fun vs H Q _ => ∃ b : Int, vs = [.int b] ∧ 0 ≤ b ∧ b ≤ 1000 ∧ ∀ p H', Same H H' → H' p = some (.lst (powL b)) → H p = none → Q (.ref p) H'
abbrev sPowersOf : Stmt := top 5
theorem sc_powers_of : FnScope ["base", "powers"] ["base"] (defScope sPowersOf) := ⟨rfl, rfl, rfl, by decide +kernel, rfl, by decide +kernel, by decide +kernel⟩
theorem ok_powers_of (T : Tx K mg) : Cal P w K mg base "powers_of" 1 ["base"] (spPowersOf K) := by
  have sc := sc_powers_of
  refine Cal.of T.d_powers_of sc (fun _ _ _ _ _ _ us hl => match us, hl with | [_], _ => rfl) (by walk_at "vlen") (fun f cdv A outer s H vs Q E hr h => ?_)
  obtain ⟨b, rfl, hb0, hb1, q⟩ := h
  refine ⟨_, (pss_cons
    (ps_set (i := 1) sc.nd rfl (Or.inl rfl) (pe_lst (pa_cons pe_int pa_nil)))
    (pss_cons
    (ps_while (passes_of rfl) (pt_cmpR w_le (pe_callB (k_len (K := K) rfl) rfl T.f_len PySem.boot_len (pa_cons (pv 1) pa_nil)) (pe_cInt T.c_MOST_LETTERS) (nomark _)) (pss_one
      (ps_expr (pe_bm PySem.F.plainAttrs_list PySem.F.slot_list_append PySem.F.type_list_append mt_append (pv 1) (pa_cons (pe_op w_mul (pe_ix (k_ixL (K := K) rfl) (pv 1) (pe_un w_neg pe_int) (fun _ _ => rfl)) (pv 0)) pa_nil)))))
    (pss_one
    (ps_ret (pv 1))))), ?_⟩
  have s0 : ∀ v0 : V, start ["base", "powers"] [v0] = [some v0, none] := fun _ => rfl
  rw [s0]
  walk_at "vc"
  refine ⟨Nat.le_of_ble_eq_true rfl, fun p hp => ?_⟩
  walk_at "vc"
  refine loop_while (fun m σ H' => ∃ n, m = 61 - n ∧ n ≤ 61 ∧ 1 ≤ n ∧ σ = [some (.int b), some (.ref p)] ∧ H' = upd H p (.lst ((List.range n).map fun i => V.int (b ^ i)))) 60 ⟨1, rfl, by omega, by omega, rfl, by simp [List.range_succ]⟩ ?_
  rintro m σ H' ⟨n, rfl, hn, hn1, rfl, rfl⟩
  walk_at "vc"
  rw [List.length_map, List.length_range]
  refine v_dec (fun h => ?_) (fun h => ?_)
  · refine ⟨fun σ' H' => ∃ n', 61 - n' < 61 - n ∧ n' ≤ 61 ∧ 1 ≤ n' ∧ σ' = [some (.int b), some (.ref p)] ∧ H' = upd H p (.lst ((List.range n').map fun i => V.int (b ^ i))), fun σ' H' ⟨n', h1, h2, h3, h4, h5⟩ => ⟨61 - n', h1, n', rfl, h2, h3, h4, h5⟩, ?_⟩
    obtain ⟨k, rfl⟩ : ∃ k, n = k + 1 := ⟨n - 1, by omega⟩
    have e : atI ((List.range (k + 1)).map fun i => V.int (b ^ i)) (-1) = some (.int (b ^ k)) := by
      rw [List.range_succ, List.map_append]
      exact at_last
    have c : (-(2 ^ 64) < b ^ k ∧ b ^ k < 2 ^ 64) ∨ (-(2 ^ 64) < b ∧ b < 2 ^ 64) := .inr (by omega)
    walk_at "vc"
    refine v_append upd_same (by rw [List.length_map, List.length_range, sizeLine_eq]; omega) ?_
    walk_at "vc"
    refine ⟨k + 2, by omega, by omega, by omega, rfl, ?_⟩
    rw [upd_upd, List.range_succ (n := k + 1), List.map_append, List.map_cons, Int.pow_succ, List.map_nil]
  · walk_at "vc"
    have e : n = 61 := by omega
    subst e
    exact q p _ ((Same.refl H).vnew hp) upd_same hp
def spIsComplete (K : PySem.W.Frag) : Sp := fun vs H Q _ => ∃ (x : V) (o : Option (List V)) (L : List Nat), vs = [x, .str (S L)] ∧ L.length ≤ 100 ∧ Told K H x o ∧
  ∀ b H', (b = true ↔ ∃ ws : List (List Nat), o = some (ws.map strV) ∧ ws.length ≤ 5000 ∧ Cm L ws) → Same H H' → Q (.bl b) H'
theorem words_of {L : List Nat} : ∀ (xs : List V), (∀ v ∈ xs, IsWord L v) → ∃ ws : List (List Nat), xs = ws.map strV ∧ ∀ u ∈ ws, u.length ≤ 60 ∧ In L u
  | [], _ => ⟨[], rfl, fun _ h => by cases h⟩
  | x :: r, h => by
    obtain ⟨u, e, l, m⟩ := h x List.mem_cons_self
    obtain ⟨ws, e2, h2⟩ := words_of r fun v hv => h v (List.mem_cons_of_mem _ hv)
    exact ⟨u :: ws, by rw [e, e2]; rfl, fun v hv => by
      rcases List.mem_cons.mp hv with rfl | hv
      · exact ⟨l, m⟩
      · exact h2 v hv⟩
theorem strV_inj : ∀ {a b : List (List Nat)}, a.map strV = b.map strV → a = b
  | [], [], _ => rfl
  | [], _ :: _, h => by cases h
  | _ :: _, [], h => by cases h
  | x :: r, y :: s, h => by
    rw [List.map_cons, List.map_cons] at h
    injection h with h1 h2
    rw [S_inj (V.str.inj h1), strV_inj h2]
theorem cast_sum (b : Nat) (m : Nat) : ∀ ws : List (List Nat), ((ws.map fun u => ((b : Int) ^ (m - u.length))).sum) = (((ws.map fun u => b ^ (m - u.length)).sum : Nat) : Int)
  | [] => rfl
  | u :: r => by
    rw [List.map_cons, List.sum_cons, List.map_cons, List.sum_cons, cast_sum b m r, Int.natCast_add, Int.natCast_pow]
abbrev sIsComplete : Stmt := top 6
theorem sc_is_complete : FnScope ["words", "letters", "word", "powers", "longest"] ["words", "letters"] (defScope sIsComplete) := ⟨rfl, rfl, rfl, by decide +kernel, rfl, by decide +kernel, by decide +kernel⟩
theorem ok_is_complete (T : Tx K mg) : Cal P w K mg base "is_complete" 2 ["words", "letters"] (spIsComplete K) := by
  have sc := sc_is_complete
  refine Cal.of T.d_is_complete sc (fun _ _ _ _ _ _ us hl => match us, hl with | [_, _], _ => rfl) (by walk_at "vlen") (fun f cdv A outer s H vs Q E hr h => ?_)
  obtain ⟨x, o, L, rfl, hL, hx, q⟩ := h
  -- cells: ['longest', 'powers']
  refine ⟨_, (pss_cons
    (ps_if (PW.pt (pw_or (pt_not (pt_val (pe_callB (k_isi (K := K) rfl) rfl T.f_isinstance boot_isinstance (pa_cons (pv 0) (pa_cons (pe_bltn (v := .ty "tuple") (u := .type "tuple") rfl T.f_tuple (by decide +kernel) rfl) pa_nil))))) (pw_or1 (pt_not (pt_chain w_le w_le pe_int (pe_callB (k_len (K := K) rfl) rfl T.f_len PySem.boot_len (pa_cons (pv 0) pa_nil)) (pe_cInt T.c_MOST_WORDS)))))) (pss_one
      (ps_ret pe_bl)) pss_nil)
    (pss_cons
    (ps_for (passes_of rfl) rfl (k_iT (K := K) rfl (pv 0)) (pg_name (i := 2) sc.nd rfl (Or.inl rfl)) (pss_one
      (ps_if (pt_not (pt_val (pe_cal (ok_is_word T) hr passL (pa_cons (pv 2) (pa_cons (pv 1) pa_nil))))) (pss_one
        (ps_ret pe_bl)) pss_nil)))
    (pss_cons
    (ps_if (pt_not (pt_val (pe_cal (ok_is_prefix_free T) hr passL (pa_cons (pv 0) pa_nil)))) (pss_one
      (ps_ret pe_bl)) pss_nil)
    (pss_cons
    (ps_set (i := 3) sc.nd rfl (Or.inr rfl) (pe_cal (ok_powers_of T) hr passL (pa_cons (pe_callB w_lenS rfl T.f_len PySem.boot_len (pa_cons (pv 1) pa_nil)) pa_nil)))
    (pss_cons
    (ps_set (i := 4) sc.nd rfl (Or.inr rfl) (pe_callB (k_max (K := K) rfl rfl) rfl T.f_max (by decide +kernel) (pa_cons (pe_lc (own := [("word", 2)]) rfl sc.nd (k_iT (K := K) rfl (pv 0)) (blkOk_by (N := ["words", "letters", "word", "powers", "longest"]) (sc := defScope sIsComplete) (by decide +kernel)) (fun _ _ _ _ _ => (pg_name (i := 2) sc.nd rfl (Or.inl rfl))) (fun _ _ _ _ _ => pts_nil) (fun _ _ _ _ _ => (pe_callB w_lenS rfl T.f_len PySem.boot_len (pa_cons (pv 2) pa_nil)))) pa_nil)))
    (pss_one
    (ps_ret (pe_cmpR op_eq (pe_callB (k_sum (K := K) rfl rfl) rfl T.f_sum (by decide +kernel) (pa_cons (pe_lc (own := [("word", 2)]) rfl sc.nd (k_iT (K := K) rfl (pv 0)) (blkOk_by (N := ["words", "letters", "word", "powers", "longest"]) (sc := defScope sIsComplete) (by decide +kernel)) (fun _ _ _ _ _ => (pg_name (i := 2) sc.nd rfl (Or.inl rfl))) (fun _ _ _ _ _ => pts_nil) (fun _ _ _ _ _ => (pe_ix (k_ixL (K := K) rfl) (pv 3) (pe_op w_sub (pv 4) (pe_callB w_lenS rfl T.f_len PySem.boot_len (pa_cons (pv 2) pa_nil))) (fun _ _ => rfl)))) pa_nil)) (pe_ix (k_ixL (K := K) rfl) (pv 3) (pv 4) (fun _ _ => rfl)) (nomark _))))))))), ?_⟩
  have s0 : ∀ v0 v1 : V, start ["words", "letters", "word", "powers", "longest"] [v0, v1] = [some v0, some v1, none, none, none] := fun _ _ => rfl
  rw [s0]
  walk_at "vc"
  have no : (∀ xs, o = some xs → xs.length < 1 ∨ 5000 < xs.length) → (false = true ↔ ∃ ws : List (List Nat), o = some (ws.map strV) ∧ ws.length ≤ 5000 ∧ Cm L ws) := fun h => ⟨fun e => (by cases e), fun ⟨ws, e, l, c⟩ => by
    have := h _ e
    rw [List.length_map] at this
    rcases this with g | g
    · exact absurd (List.length_eq_zero_iff.mp (by omega)) c.1
    · omega⟩
  cases hx with
  | int i =>
    walk_at "vc"
    exact q _ _ (no fun _ e => by cases e) (Same.refl H)
  | str u z =>
    walk_at "vc"
    exact q _ _ (no fun _ e => by cases e) (Same.refl H)
  | tup a xs hS z he =>
    walk_at "vc"
    refine v_dec (fun h1 => ?_) (fun h1 => ?_)
    rotate_left
    · walk_at "vc"
      exact q _ _ (no fun _ e => by cases e; omega) (Same.refl H)
    walk_at "vc"
    refine v_decN (fun h2 => ?_) (fun h2 => ?_)
    · walk_at "vc"
      exact q _ _ (no fun _ e => by cases e; omega) (Same.refl H)
    walk_at "vc"
    refine loop_tup (xs := xs) (fun i σ H' => (∃ u, σ = [some (.ref a), some (.str (S L)), u, none, none]) ∧ Same H H' ∧ ∀ v ∈ xs.take i, IsWord L v) ⟨⟨none, rfl⟩, Same.refl H, fun v h => by simp at h⟩ (fun i σ H' _ ⟨_, s, _⟩ => s.vtup hS) ?_ ?_
    · rintro i x σ H' hi ⟨⟨u, rfl⟩, s1, hw⟩
      walk_at "vc"
      refine ⟨x, L, rfl, (he x (List.mem_of_getElem? hi)).same s1, fun b H2 hb s2 => ?_⟩
      refine v_bl ?_
      refine v_iteN (fun h => ?_) (fun h => ?_)
      · walk_at "vc"
        refine q _ _ ⟨fun e => (by cases e), fun ⟨ws, e, l, c⟩ => ?_⟩ (s1.trans s2)
        cases e
        have := hb.mpr (by
          rw [List.getElem?_map] at hi
          obtain ⟨u', hu⟩ := Option.map_eq_some_iff.mp hi
          exact ⟨u', hu.2.symm, c.2.1 u' (List.mem_of_getElem? hu.1)⟩)
        rw [h] at this
        cases this
      · walk_at "vc"
        refine ⟨⟨_, rfl⟩, s1.trans s2, fun v hv => ?_⟩
        rw [List.take_succ, hi] at hv
        rcases List.mem_append.mp hv with hv | hv
        · exact hw v hv
        · simp at hv
          rw [hv]
          exact hb.mp h
    · rintro σ H1 ⟨⟨u, rfl⟩, s1, hw⟩
      rw [List.take_length] at hw
      obtain ⟨ws, rfl, hws⟩ := words_of xs hw
      rw [List.length_map] at h1 h2 z
      have hS1 := s1.vtup hS
      have yes : ∀ p : Prop, (p ↔ Cm L ws) → (p ↔ ∃ ws' : List (List Nat), some (ws.map strV) = some (ws'.map strV) ∧ ws'.length ≤ 5000 ∧ Cm L ws') := fun p hp =>
        hp.trans ⟨fun c => ⟨ws, rfl, by omega, c⟩, fun ⟨ws', e, _, c⟩ => by
          rw [strV_inj (Option.some.inj e)]
          exact c⟩
      walk_at "vc"
      refine ⟨a, ws, rfl, hS1, z, fun u hu => by have := (hws u hu).1; omega, fun b hb => ?_⟩
      refine v_bl ?_
      refine v_iteN (fun h => ?_) (fun h => ?_)
      · walk_at "vc"
        refine q _ _ (yes _ ⟨fun e => (by cases e), fun c => ?_⟩) s1
        have := hb.mpr c.2.2.1
        rw [h] at this
        cases this
      have hpf := hb.mp h
      walk_at "vc"
      refine ⟨_, rfl, by omega, by omega, fun p H2 s2 hp np => ?_⟩
      have hS2 := s2.vtup hS1
      walk_at "vc"
      intro D hD
      refine lc_t (xs := ws.map strV) (fun i H' => H' = upd H2 D (.lst ((ws.take i).map fun u => V.int u.length))) (by simp) (fun i H' _ e => by subst e; exact ((Same.refl H2).vnew hD).vtup (s2.vtup hS1)) (fun i c H' hi e => ?_) (fun H' e => ?_)
      · subst e
        rw [List.getElem?_map] at hi
        obtain ⟨u', hu, rfl⟩ := Option.map_eq_some_iff.mp hi
        have := (hws u' (List.mem_of_getElem? hu)).1
        walk_at "vc"
        refine ⟨rfl, ?_⟩
        walk_at "vc"
        exact lc_step (f := fun u : List Nat => V.int u.length) hu (by omega)
      · subst e
        rw [List.length_map, List.take_length]
        walk_at "vc"
        refine v_maxL (ns := ws.map fun u => (u.length : Int)) (SqL.of (by rw [upd_same, List.map_map]; rfl)) (by rw [List.length_map]; omega) fun m hm1 hm2 => ?_
        obtain ⟨um, hum, rfl⟩ := List.mem_map.mp hm1
        have lm := (hws um hum).1
        have hle : ∀ u ∈ ws, u.length ≤ um.length := fun u hu => by
          have := hm2 _ (List.mem_map.mpr ⟨u, hu, rfl⟩)
          omega
        have s3 : Same H2 (upd H2 D (.lst (ws.map fun u => V.int u.length))) := (Same.refl H2).vnew hD
        generalize upd H2 D (.lst (ws.map fun u => V.int u.length)) = H3 at s3
        have hp3 := s3 _ _ hp
        have hS3 := s3.vtup (s2.vtup hS1)
        walk_at "vc"
        intro E hE
        refine lc_t (xs := ws.map strV) (fun i H' => H' = upd H3 E (.lst ((ws.take i).map fun u => V.int (((L.length : Int)) ^ (um.length - u.length))))) (by simp) (fun i H' _ e => by subst e; exact ((Same.refl H3).vnew hE).vtup hS3) (fun i c H' hi e => ?_) (fun H' e => ?_)
        · subst e
          rw [List.getElem?_map] at hi
          obtain ⟨u', hu, rfl⟩ := Option.map_eq_some_iff.mp hi
          have lu := (hws u' (List.mem_of_getElem? hu)).1
          have lu2 := hle u' (List.mem_of_getElem? hu)
          have hpE := ((Same.refl H3).vnew (o := .lst ((ws.take i).map fun u => V.int (((L.length : Int)) ^ (um.length - u.length)))) hE) _ _ hp3
          have ea : atI (powL (L.length : Int)) ((um.length : Int) - (u'.length : Int)) = some (.int ((L.length : Int) ^ (um.length - u'.length))) := by
            have := at_pow (b := (L.length : Int)) (k := (um.length : Int) - (u'.length : Int)) (by omega) (by omega)
            rw [show ((um.length : Int) - (u'.length : Int)).toNat = um.length - u'.length by omega] at this
            exact this
          walk_at "vc"
          refine ⟨rfl, ?_⟩
          walk_at "vc"
          exact lc_step (f := fun u : List Nat => V.int (((L.length : Int)) ^ (um.length - u.length))) hu (by omega)
        · subst e
          rw [List.length_map, List.take_length]
          refine v_nil ?_
          refine v_sum (ns := ws.map fun u => ((L.length : Int)) ^ (um.length - u.length)) (SqL.of (by rw [upd_same, List.map_map]; rfl)) ?_
          have s4 : Same H3 (upd H3 E (.lst (ws.map fun u => V.int (((L.length : Int)) ^ (um.length - u.length))))) := (Same.refl H3).vnew hE
          generalize upd H3 E (.lst (ws.map fun u => V.int (((L.length : Int)) ^ (um.length - u.length)))) = H4 at s4
          have hp4 := s4 _ _ hp3
          have ea : atI (powL (L.length : Int)) (um.length : Int) = some (.int ((L.length : Int) ^ um.length)) := at_pow (b := (L.length : Int)) (k := (um.length : Int)) (by omega) (by omega)
          walk_at "vc"
          refine q _ _ (yes _ ?_) ((s1.trans s2).trans (s3.trans s4))
          rw [decide_eq_true_eq, cast_sum, ← Int.natCast_pow]
          constructor
          · intro e
            refine ⟨fun z => (by rw [z] at hum; cases hum), fun u hu => hws u hu, hpf, fun mx ⟨u1, x1, x2⟩ x3 => ?_⟩
            have em : mx = um.length := by
              have := hle u1 x1
              have := x3 um hum
              omega
            subst em
            have := V.int.inj e
            exact_mod_cast this
          · intro c
            rw [c.2.2.2 um.length ⟨um, hum, rfl⟩ hle]
end
end RC
namespace RC
open PySem PySem.Spec PyProof.Rows L2
local macro_rules | `(tactic| walk_at "vside") => `(tactic| first | assumption | exact rfl | omega | exact Nat.le_of_ble_eq_true rfl | exact SqL.of (by assumption) | exact SqT.of (by assumption) | exact SqL.of upd_same | exact SqT.of upd_same | exact upd_same | exact Rd.of (by assumption) | exact Rd.of upd_same | (rw [sizeLine_eq]; omega) | (simp only [List.length_append, List.length_cons, List.length_nil, List.length_map, sizeLine_eq]; omega))
local macro_rules | `(tactic| walk_at "v1") => `(tactic| first
  | (with_reducible first
    | refine v_seq ?_ | refine v_asg ?_ | refine v_ret ?_ | refine v_retN ?_ | refine v_next ?_ | refine v_drop ?_ | refine v_if ?_ | refine v_test ?_ | refine v_tB ?_ | refine v_bl ?_ | refine v_not ?_ | refine v_and ?_ | refine v_or ?_
    | refine v_andV ?_ | refine v_orV ?_ | refine v_notV ?_ | refine v_ifE ?_ | refine v_C ?_ | refine v_op ?_ | refine v_un ?_ | refine v_CB ?_ | refine v_CKw ?_ | refine v_nil ?_ | refine v_cons ?_ | refine v_call ?_ | refine v_tup ?_ | refine v_lst ?_
    | refine v_revT ?_ | refine v_sl ?_ | refine v_noPart ?_ | refine v_part ?_ | refine v_partI ?_ | refine v_add ?_ | refine v_sub ?_ | refine v_lt ?_ | refine v_le ?_ | refine v_gt ?_ | refine v_ge ?_ | refine v_neg ?_ | refine v_abs ?_ | refine v_int ?_
    | refine v_min2 ?_ | refine v_max2 ?_ | refine v_gSub ?_ | refine v_BM ?_ | refine v_BM0 ?_ | refine v_dput ?_ | refine v_dget ?_ | refine v_dnotin ?_ | refine v_din ?_ | refine v_for ?_ | refine v_iRng1 ?_ | refine v_iRng2 ?_ | refine v_iList ?_ | refine v_iTup ?_ | refine v_lc ?_ | refine v_yes ?_ | refine v_chain ?_ | refine v_M1 ?_ | refine v_M0 ?_ | refine v_isStr ?_ | refine v_start ?_ | refine v_leS ?_ | refine v_inS ?_ | refine v_iStr ?_ | refine v_isS ?_ | refine v_intB' ?_ | refine v_tru ?_ | refine v_iteT ?_ | refine v_iteF ?_ | refine v_iteNT ?_ | refine v_iteNF ?_ | refine v_iKeys ?_)
  | ((with_reducible refine' v_var ?k1 ?_); (case k1 => exact rfl))
  | ((with_reducible refine' v_gName ?k1 ?_); (case k1 => (dsimp only [List.set, L2.wipe, List.map]; try exact rfl)))
  | ((with_reducible refine' v_mul ?k1 ?_); (case k1 => walk_at "vside"))
  | ((with_reducible refine' v_div ?k1 ?_); (case k1 => walk_at "vside"))
  | ((with_reducible refine' v_mod ?k1 ?_); (case k1 => walk_at "vside"))
  | ((with_reducible refine' v_eq ?k1 ?_); (case k1 => exact rfl))
  | ((with_reducible refine' v_ne ?k1 ?_); (case k1 => exact rfl))
  | ((with_reducible refine' v_isi ?k1 ?k2 ?_); (case k1 => first | exact tyX_tup (by assumption) | exact .base (.int _) | exact .base (.bl _) | exact .base (.str _) | exact .base .non | exact .base (.lst (by assumption)) | exact .base (.tup (by assumption)) | exact .base (.dK (by assumption))); (case k2 => first | exact kit_int_int | exact kit_int_bool | exact kit_int_str | exact kit_int_tuple | exact kit_int_list | exact kit_int_dict | exact kit_bool_int | exact kit_bool_bool | exact kit_bool_str | exact kit_bool_tuple | exact kit_bool_list | exact kit_bool_dict | exact kit_str_int | exact kit_str_bool | exact kit_str_str | exact kit_str_tuple | exact kit_str_list | exact kit_str_dict | exact kit_tuple_int | exact kit_tuple_bool | exact kit_tuple_str | exact kit_tuple_tuple | exact kit_tuple_list | exact kit_tuple_dict | exact kit_list_int | exact kit_list_bool | exact kit_list_str | exact kit_list_tuple | exact kit_list_list | exact kit_list_dict | exact kit_dict_int | exact kit_dict_bool | exact kit_dict_str | exact kit_dict_tuple | exact kit_dict_list | exact kit_dict_dict | exact kit_NoneType_int | exact kit_NoneType_bool | exact kit_NoneType_str | exact kit_NoneType_tuple | exact kit_NoneType_list | exact kit_NoneType_dict))
  | ((with_reducible refine' v_truL ?k1 ?_); (case k1 => walk_at "vside"))
  | ((with_reducible refine' v_truT ?k1 ?_); (case k1 => walk_at "vside"))
  | ((with_reducible refine' v_maxD ?k1 ?_); (case k1 => walk_at "vside"))
  | ((with_reducible refine' v_minD ?k1 ?_); (case k1 => walk_at "vside"))
  | ((with_reducible refine' v_lenL ?k1 ?_); (case k1 => walk_at "vside"))
  | ((with_reducible refine' v_lenT ?k1 ?_); (case k1 => walk_at "vside"))
  | ((with_reducible refine' v_lenD ?k1 ?_); (case k1 => walk_at "vside"))
  | ((with_reducible refine' v_ixL ?k1 ?k2 ?_); (case k1 => walk_at "vside"); (case k2 => walk_at "vside"))
  | ((with_reducible refine' v_ixT ?k1 ?k2 ?_); (case k1 => walk_at "vside"); (case k2 => walk_at "vside"))
  | ((with_reducible refine' v_setL ?k1 ?k2 ?_); (case k1 => walk_at "vside"); (case k2 => walk_at "vside"))
  | ((with_reducible refine' v_isL ?k1 ?_); (case k1 => walk_at "vside"))
  | ((with_reducible refine' v_append ?k1 ?k2 ?_); (case k1 => walk_at "vside"); (case k2 => walk_at "vside"))
  | ((with_reducible refine' v_dputI ?k1 ?k2 ?_); (case k1 => walk_at "vside"); (case k2 => walk_at "vside"))
  | ((with_reducible refine' v_dgetI ?k1 ?k2 ?_); (case k1 => walk_at "vside"); (case k2 => walk_at "vside"))
  | ((with_reducible refine' v_dhasI ?k1 ?_); (case k1 => walk_at "vside"))
  | ((with_reducible refine' v_isqL ?k1 ?_); (case k1 => walk_at "vside"))
  | ((with_reducible refine' v_isqT ?k1 ?_); (case k1 => walk_at "vside"))
  | ((with_reducible refine' v_addS ?k1 ?_); (case k1 => walk_at "vside"))
  | ((with_reducible refine' v_lenSS ?k1 ?_); (case k1 => walk_at "vside"))
  | ((with_reducible refine' v_ixS ?k1 ?k2 ?_); (case k1 => walk_at "vside"); (case k2 => walk_at "vside"))
  | ((with_reducible refine' v_slS ?k1 ?_); (case k1 => walk_at "vside"))
  | ((with_reducible refine' v_idx ?k1 ?_); (case k1 => walk_at "vside"))
  | ((with_reducible refine' v_all ?k1 ?_); (case k1 => walk_at "vside"))
  | ((with_reducible refine' v_sum ?k1 ?_); (case k1 => walk_at "vside"))
  | ((with_reducible refine' v_rng1 ?k1 ?_); (case k1 => walk_at "vside"))
  | ((with_reducible refine' v_rng2 ?k1 ?_); (case k1 => walk_at "vside")))
local macro_rules | `(tactic| walk_at "vc") => `(tactic| repeat walk_at "v1")
local macro_rules | `(tactic| walk_at "vlen") => `(tactic| (intro vs H Q E h; (repeat' (obtain ⟨_, h⟩ := h)); first | (subst_vars; rfl) | (simp_all)))
open K45
section
variable {P : Program} {w : World} {K : PySem.W.Frag} {mg : Str → Option Value} {base : Heap}
theorem cut_one (l : List Nat) : cutL l none (some 1) = l.take 1 := cut_to l 1
theorem acc_in {L p u : List Nat} (h : Acc L p u) (m : In L p) : In L u := fun c hc => by
  rw [← List.take_append_drop p.length u, h.2.1] at hc
  rcases List.mem_append.mp hc with hc | hc
  · exact m c hc
  · have := h.2.2 c hc
    exact List.mem_of_mem_take (i := 1) (by rw [← this]; simp)
theorem nxt_none {L u : List Nat} (h : nxt L u = none) : its L u.length u = [] := by
  unfold nxt at h
  split at h
  · assumption
  · cases h
/-- the walk's state in the program's names -/
def WalkSt (L : List Nat) (st : Option (List Nat)) (b : List Nat) (left : Bool) : Prop := (st = none ∧ left = false) ∨ (st = some b ∧ left = true ∧ In L b ∧ b.length ≤ 60)
def spLawLeaves (K : PySem.W.Frag) : Sp := fun vs H Q _ => ∃ (x : V) (o : Option (List V)) (L : List Nat), vs = [x, .str (S L)] ∧ L.length ≤ 100 ∧ Asc L ∧ Told K H x o ∧
  ∀ b, (b = true ↔ ∃ ws : List (List Nat), o = some (ws.map strV) ∧ ws.length ≤ 5000 ∧ Lv L (some []) ws) → Q (.bl b) H
abbrev sLawLeaves : Stmt := top 14
theorem sc__law_leaves : FnScope ["told", "letters", "branch", "left", "word", "sign", "k"] ["told", "letters"] (defScope sLawLeaves) := ⟨rfl, rfl, rfl, by decide +kernel, rfl, by decide +kernel, by decide +kernel⟩
theorem ok__law_leaves (T : Tx K mg) : Cal P w K mg base "_law_leaves" 1 ["told", "letters"] (spLawLeaves K) := by
  have sc := sc__law_leaves
  refine Cal.of T.d__law_leaves sc (fun _ _ _ _ _ _ us hl => match us, hl with | [_, _], _ => rfl) (by walk_at "vlen") (fun f cdv A outer s H vs Q E hr h => ?_)
  obtain ⟨x, o, L, rfl, hL, hA, hx, q⟩ := h
  refine ⟨_, (pss_cons
    (ps_if (PW.pt (pw_or (pt_not (pt_val (pe_callB (k_isi (K := K) rfl) rfl T.f_isinstance boot_isinstance (pa_cons (pv 0) (pa_cons (pe_bltn (v := .ty "tuple") (u := .type "tuple") rfl T.f_tuple (by decide +kernel) rfl) pa_nil))))) (pw_or (pt_cmpR w_lt (pe_callB (k_len (K := K) rfl) rfl T.f_len PySem.boot_len (pa_cons (pv 0) pa_nil)) pe_int (nomark _)) (pw_or1 (pt_cmpR w_gt (pe_callB (k_len (K := K) rfl) rfl T.f_len PySem.boot_len (pa_cons (pv 0) pa_nil)) pe_int (nomark _)))))) (pss_one
      (ps_ret pe_bl)) pss_nil)
    (pss_cons
    (ps_set (i := 2) sc.nd rfl (Or.inl rfl) (pe_strS [] (by decide +kernel)))
    (pss_cons
    (ps_set (i := 3) sc.nd rfl (Or.inl rfl) pe_bl)
    (pss_cons
    (ps_for (passes_of rfl) rfl (k_iT (K := K) rfl (pv 0)) (pg_name (i := 4) sc.nd rfl (Or.inl rfl)) (pss_cons
      (ps_if (PW.pt (pw_or (pt_not (pt_val (pv 3))) (pw_or (pt_not (pt_val (pe_callB (k_isi (K := K) rfl) rfl T.f_isinstance boot_isinstance (pa_cons (pv 4) (pa_cons (pe_bltn (v := .ty "str") (u := .type "str") rfl T.f_str (by decide +kernel) rfl) pa_nil))))) (pw_or1 (pt_cmpR w_gt (pe_callB w_lenS rfl T.f_len PySem.boot_len (pa_cons (pv 4) pa_nil)) pe_int (nomark _)))))) (pss_one
        (ps_ret pe_bl)) pss_nil)
      (pss_cons
      (ps_if (pt_cmpR op_ne (pe_slice sl_str (pv 4) po_none (po_some (pe_callB w_lenS rfl T.f_len PySem.boot_len (pa_cons (pv 2) pa_nil)))) (pv 2) (nomark _)) (pss_one
        (ps_ret pe_bl)) pss_nil)
      (pss_cons
      (ps_for (passes_of rfl) rfl (pi_str (pe_slice sl_str (pv 4) (po_some (pe_callB w_lenS rfl T.f_len PySem.boot_len (pa_cons (pv 2) pa_nil))) po_none)) (pg_name (i := 5) sc.nd rfl (Or.inl rfl)) (pss_one
        (ps_if (pt_cmpR op_ne (pv 5) (pe_slice sl_str (pv 1) po_none (po_some pe_int)) (nomark _)) (pss_one
          (ps_ret pe_bl)) pss_nil)))
      (pss_cons
      (ps_set (i := 2) sc.nd rfl (Or.inl rfl) (pv 4))
      (pss_cons
      (ps_for (passes_of rfl) rfl (pi_range1 rfl T.f_range (pa_cons (pe_callB w_lenS rfl T.f_len PySem.boot_len (pa_cons (pv 4) pa_nil)) pa_nil)) (pg_name (i := 6) sc.nd rfl (Or.inl rfl)) (pss_one
        (ps_if (pt_cmpR op_eq (pe_slice sl_str (pv 2) (po_some (pe_un w_neg pe_int)) po_none) (pe_slice sl_str (pv 1) (po_some (pe_un w_neg pe_int)) po_none) (nomark _)) (pss_one
          (ps_set (i := 2) sc.nd rfl (Or.inl rfl) (pe_slice sl_str (pv 2) po_none (po_some (pe_un w_neg pe_int))))) pss_nil)))
      (pss_one
      (ps_if (pt_cmpR op_eq (pv 2) (pe_strS [] (by decide +kernel)) (nomark _)) (pss_one
        (ps_set (i := 3) sc.nd rfl (Or.inl rfl) pe_bl)) (pss_one
        (ps_set (i := 2) sc.nd rfl (Or.inl rfl) (pe_op w_addS (pe_slice sl_str (pv 2) po_none (po_some (pe_un w_neg pe_int))) (pe_ix ix_str (pv 1) (pe_op w_add (pe_idxS (pv 1) (pe_ix ix_str (pv 2) (pe_un w_neg pe_int) (fun _ _ => rfl))) pe_int) (fun _ _ => rfl)))))))))))))
    (pss_one
    (ps_ret (pe_not (pv 3)))))))), ?_⟩
  have s0 : ∀ v0 v1 : V, start ["told", "letters", "branch", "left", "word", "sign", "k"] [v0, v1] = [some v0, some v1, none, none, none, none, none] := fun _ _ => rfl
  rw [s0]
  walk_at "vc"
  have no : (∀ xs, o = some xs → xs.length < 1 ∨ 5000 < xs.length) → (false = true ↔ ∃ ws : List (List Nat), o = some (ws.map strV) ∧ ws.length ≤ 5000 ∧ Lv L (some []) ws) := fun h => ⟨fun e => (by cases e), fun ⟨ws, e, l, c⟩ => by
    have := h _ e
    rw [List.length_map] at this
    rcases this with g | g
    · have := List.length_eq_zero_iff.mp (by omega : ws.length = 0)
      subst this
      cases c
    · omega⟩
  cases hx with
  | int i =>
    walk_at "vc"
    exact q _ (no fun _ e => by cases e)
  | str u z =>
    walk_at "vc"
    exact q _ (no fun _ e => by cases e)
  | tup a xs hS z he =>
    walk_at "vc"
    refine v_dec (fun h1 => ?_) (fun h1 => ?_)
    · walk_at "vc"
      exact q _ (no fun _ e => by cases e; omega)
    walk_at "vc"
    refine v_dec (fun h2 => ?_) (fun h2 => ?_)
    · walk_at "vc"
      exact q _ (no fun _ e => by cases e; omega)
    walk_at "vc"
    refine loop_tup (xs := xs) (fun i σ H' => H = H' ∧ ∃ (b : List Nat) (left : Bool) (st : Option (List Nat)) (us : List (List Nat)) (v1 v2 v3 : Option V), σ = [some (.ref a), some (.str (S L)), some (.str (S b)), some (.bl left), v1, v2, v3] ∧
      xs.take i = us.map strV ∧ (∀ rest, Lv L (some []) (us ++ rest) ↔ Lv L st rest) ∧ WalkSt L st b left)
      ⟨rfl, [], true, some [], [], none, none, none, rfl, rfl, fun _ => Iff.rfl, .inr ⟨rfl, rfl, fun _ h => (by cases h), by simp⟩⟩ (fun i σ H' _ ⟨e, _⟩ => by subst e; exact hS) ?_ ?_
    · rintro i x σ H' hi ⟨rfl, b, left, st, us, v1, v2, v3, rfl, hus, hst, hw⟩
      -- what the rest must be
      have split : ∀ ws : List (List Nat), xs = ws.map strV → ∃ u rest, ws = us ++ u :: rest ∧ x = strV u := fun ws e => by
        have e1 : (ws.take i).map strV = us.map strV := by rw [← hus, e, List.map_take]
        have e2 := strV_inj e1
        rw [e, List.getElem?_map] at hi
        obtain ⟨u, hu, ex⟩ := Option.map_eq_some_iff.mp hi
        obtain ⟨hl, hg⟩ := List.getElem?_eq_some_iff.mp hu
        refine ⟨u, ws.drop (i + 1), ?_, ex.symm⟩
        rw [← e2, ← hg]
        rw [← List.drop_eq_getElem_cons hl]
        exact (List.take_append_drop i ws).symm
      have bad : (∀ u rest, x = strV u → ¬ Lv L st (u :: rest)) → (false = true ↔ ∃ ws : List (List Nat), some xs = some (ws.map strV) ∧ ws.length ≤ 5000 ∧ Lv L (some []) ws) := fun h => ⟨fun e => (by cases e), fun ⟨ws, e, _, c⟩ => by
        obtain ⟨u, rest, rfl, ex⟩ := split ws (Option.some.inj e)
        exact absurd ((hst _).mp c) (h u rest ex)⟩
      have hx := he x (List.mem_of_getElem? hi)
      walk_at "vc"
      rcases hw with ⟨rfl, rfl⟩ | ⟨rfl, rfl, mb, lb⟩
      · walk_at "vc"
        exact q _ (bad fun u rest _ h => h)
      walk_at "vc"
      cases hx with
      | int i =>
        walk_at "vc"
        exact q _ (bad fun u rest e _ => by cases e)
      | tup a2 xs2 hS2 =>
        walk_at "vc"
        exact q _ (bad fun u rest e _ => by cases e)
      | str u zu =>
        walk_at "vc"
        refine v_dec (fun h3 => ?_) (fun h3 => ?_)
        · walk_at "vc"
          refine q _ (bad fun u' rest e h => ?_)
          have := S_inj (V.str.inj e)
          subst this
          have := h.1.1
          omega
        walk_at "vc"
        rw [cut_to]
        refine v_decN (fun h4 => ?_) (fun h4 => ?_)
        · walk_at "vc"
          refine q _ (bad fun u' rest e h => ?_)
          have := S_inj (V.str.inj e)
          subst this
          exact h4 (by rw [h.1.2.1])
        have h4' := S_eqV.mp h4
        walk_at "vc"
        rw [cut_from]
        refine loop_str (fun j σ' H' => H = H' ∧ (∃ v2 v3 : Option V, σ' = [some (.ref a), some (.str (S L)), some (.str (S b)), some (.bl true), some (.str (S u)), v2, v3]) ∧ ∀ s ∈ (u.drop b.length).take j, [s] = L.take 1)
          ⟨rfl, ⟨v2, v3, rfl⟩, fun s h => by simp at h⟩ ?_ ?_
        · rintro j c σ' H' hj ⟨rfl, ⟨v2, v3, rfl⟩, hs⟩
          walk_at "vc"
          rw [cut_one]
          refine v_decN (fun h5 => ?_) (fun h5 => ?_)
          · walk_at "vc"
            refine q _ (bad fun u' rest e h => ?_)
            have := S_inj (V.str.inj e)
            subst this
            exact h5 (by rw [h.1.2.2 c (List.mem_of_getElem? hj)])
          · walk_at "vc"
            refine ⟨rfl, ⟨_, _, rfl⟩, fun s hs' => ?_⟩
            rw [List.take_succ, hj] at hs'
            rcases List.mem_append.mp hs' with g | g
            · exact hs s g
            · simp at g
              subst g
              exact S_eqV.mp h5
        · rintro σ' H' ⟨rfl, ⟨v2, v3, rfl⟩, hs⟩
          rw [List.take_length] at hs
          have hacc : Acc L b u := ⟨by omega, h4', hs⟩
          have mu := acc_in hacc mb
          have lu : u.length ≤ 60 := hacc.1
          walk_at "vc"
          refine loop_range (fun j σ' H' => H = H' ∧ (∃ v3 : Option V, σ' = [some (.ref a), some (.str (S L)), some (.str (S (its L j u))), some (.bl true), some (.str (S u)), v2, v3])) ⟨rfl, v3, rfl⟩ ?_ ?_
          · rintro j σ' H' hj ⟨rfl, v3, rfl⟩
            have hlen : (its L j u).length ≤ u.length := by
              obtain ⟨-, ⟨r, e, -⟩, -⟩ := its_spec hA lu mu j
              have := congrArg List.length e
              rw [List.length_append] at this
              omega
            walk_at "vc"
            rw [cut_last, cut_last]
            refine v_dec (fun h5 => ?_) (fun h5 => ?_)
            · walk_at "vc"
              have e : its L (j + 1) u = (its L j u).dropLast := if_pos (show last1 (its L j u) = last1 L from S_eqV.mp h5)
              rw [cut_init, e]
              exact ⟨rfl, _, rfl⟩
            · walk_at "vc"
              have e : its L (j + 1) u = its L j u := if_neg (show ¬ last1 (its L j u) = last1 L from fun e => h5 (S_eqV.mpr e))
              rw [e]
              exact ⟨rfl, _, rfl⟩
          · rintro σ' H' ⟨rfl, v3, rfl⟩
            have tk : xs.take (i + 1) = (us ++ [u]).map strV := by
              rw [List.take_succ, hi, hus, List.map_append]
              rfl
            have hst' : ∀ st', nxt L u = st' → ∀ rest, Lv L (some []) ((us ++ [u]) ++ rest) ↔ Lv L st' rest := fun st' e rest => by
              rw [List.append_assoc, List.singleton_append, hst]
              subst e
              exact ⟨fun h => h.2, fun h => ⟨hacc, h⟩⟩
            walk_at "vc"
            rw [Int.toNat_natCast]
            refine v_dec (fun h5 => ?_) (fun h5 => ?_)
            · have h5' := S_eqV.mp h5
              walk_at "vc"
              refine ⟨rfl, _, false, none, us ++ [u], _, _, _, rfl, tk, hst' none ?_, .inl ⟨rfl, rfl⟩⟩
              unfold nxt
              rw [if_pos h5']
            · rcases nxt_spec hA lu mu with ⟨n, -⟩ | ⟨p, x1, y, r, n, ew, lt, my, iy, vv, hy, mp, hit, mx⟩
              · exact absurd (by rw [nxt_none n]) h5
              · rw [hit]
                have hlp : p.length < u.length := by rw [ew]; simp
                have e1 : atI (p ++ [x1]) (-1) = some x1 := at_last
                have e2 : atI L (((L.idxOf x1 : Nat) : Int) + 1) = some y := at_get (by omega) (by rw [show (((L.idxOf x1 : Nat) : Int) + 1).toNat = L.idxOf x1 + 1 by omega]; exact hy)
                walk_at "vc"
                rw [cut_init, List.dropLast_concat]
                walk_at "vc"
                refine ⟨rfl, p ++ [y], true, some (p ++ [y]), us ++ [u], _, _, _, rfl, tk, hst' _ n, .inr ⟨rfl, rfl, fun c hc => ?_, by rw [List.length_append, List.length_singleton]; omega⟩⟩
                rcases List.mem_append.mp hc with hc | hc
                · exact mp c hc
                · rw [List.mem_singleton.mp hc]
                  exact my
    · rintro σ H' ⟨rfl, b, left, st, us, v1, v2, v3, rfl, hus, hst, hw⟩
      rw [List.take_length] at hus
      subst hus
      rw [List.length_map] at h2
      walk_at "vc"
      have key := hst []
      rw [List.append_nil] at key
      refine q _ ⟨fun h => ⟨us, rfl, by omega, ?_⟩, fun ⟨ws, e, _, c⟩ => ?_⟩
      · rcases hw with ⟨rfl, rfl⟩ | ⟨rfl, rfl, -⟩
        · exact key.mpr rfl
        · cases h
      · rw [strV_inj (Option.some.inj e)] at key
        rcases hw with ⟨rfl, rfl⟩ | ⟨rfl, rfl, -⟩
        · rfl
        · cases key.mp c
end
end RC
namespace RC
open PySem PySem.Spec PyProof.Rows L2
local macro_rules | `(tactic| walk_at "vside") => `(tactic| first | assumption | exact rfl | omega | exact Nat.le_of_ble_eq_true rfl | exact SqL.of (by assumption) | exact SqT.of (by assumption) | exact SqL.of upd_same | exact SqT.of upd_same | exact upd_same | exact Rd.of (by assumption) | exact Rd.of upd_same | (rw [sizeLine_eq]; omega) | (simp only [List.length_append, List.length_cons, List.length_nil, List.length_map, sizeLine_eq]; omega))
local macro_rules | `(tactic| walk_at "v1") => `(tactic| first
  | (with_reducible first
    | refine v_seq ?_ | refine v_asg ?_ | refine v_ret ?_ | refine v_retN ?_ | refine v_next ?_ | refine v_drop ?_ | refine v_if ?_ | refine v_test ?_ | refine v_tB ?_ | refine v_bl ?_ | refine v_not ?_ | refine v_and ?_ | refine v_or ?_
    | refine v_andV ?_ | refine v_orV ?_ | refine v_notV ?_ | refine v_ifE ?_ | refine v_C ?_ | refine v_op ?_ | refine v_un ?_ | refine v_CB ?_ | refine v_CKw ?_ | refine v_nil ?_ | refine v_cons ?_ | refine v_call ?_ | refine v_tup ?_ | refine v_lst ?_
    | refine v_revT ?_ | refine v_sl ?_ | refine v_noPart ?_ | refine v_part ?_ | refine v_partI ?_ | refine v_add ?_ | refine v_sub ?_ | refine v_lt ?_ | refine v_le ?_ | refine v_gt ?_ | refine v_ge ?_ | refine v_neg ?_ | refine v_abs ?_ | refine v_int ?_
    | refine v_min2 ?_ | refine v_max2 ?_ | refine v_gSub ?_ | refine v_BM ?_ | refine v_BM0 ?_ | refine v_dput ?_ | refine v_dget ?_ | refine v_dnotin ?_ | refine v_din ?_ | refine v_for ?_ | refine v_iRng1 ?_ | refine v_iRng2 ?_ | refine v_iList ?_ | refine v_iTup ?_ | refine v_lc ?_ | refine v_yes ?_ | refine v_chain ?_ | refine v_M1 ?_ | refine v_M0 ?_ | refine v_isStr ?_ | refine v_start ?_ | refine v_leS ?_ | refine v_inS ?_ | refine v_iStr ?_ | refine v_isS ?_ | refine v_intB' ?_ | refine v_tru ?_ | refine v_iteT ?_ | refine v_iteF ?_ | refine v_iteNT ?_ | refine v_iteNF ?_ | refine v_iKeys ?_)
  | ((with_reducible refine' v_var ?k1 ?_); (case k1 => exact rfl))
  | ((with_reducible refine' v_gName ?k1 ?_); (case k1 => (dsimp only [List.set, L2.wipe, List.map]; try exact rfl)))
  | ((with_reducible refine' v_mul ?k1 ?_); (case k1 => walk_at "vside"))
  | ((with_reducible refine' v_div ?k1 ?_); (case k1 => walk_at "vside"))
  | ((with_reducible refine' v_mod ?k1 ?_); (case k1 => walk_at "vside"))
  | ((with_reducible refine' v_eq ?k1 ?_); (case k1 => exact rfl))
  | ((with_reducible refine' v_ne ?k1 ?_); (case k1 => exact rfl))
  | ((with_reducible refine' v_isi ?k1 ?k2 ?_); (case k1 => first | exact tyX_tup (by assumption) | exact .base (.int _) | exact .base (.bl _) | exact .base (.str _) | exact .base .non | exact .base (.lst (by assumption)) | exact .base (.tup (by assumption)) | exact .base (.dK (by assumption))); (case k2 => first | exact kit_int_int | exact kit_int_bool | exact kit_int_str | exact kit_int_tuple | exact kit_int_list | exact kit_int_dict | exact kit_bool_int | exact kit_bool_bool | exact kit_bool_str | exact kit_bool_tuple | exact kit_bool_list | exact kit_bool_dict | exact kit_str_int | exact kit_str_bool | exact kit_str_str | exact kit_str_tuple | exact kit_str_list | exact kit_str_dict | exact kit_tuple_int | exact kit_tuple_bool | exact kit_tuple_str | exact kit_tuple_tuple | exact kit_tuple_list | exact kit_tuple_dict | exact kit_list_int | exact kit_list_bool | exact kit_list_str | exact kit_list_tuple | exact kit_list_list | exact kit_list_dict | exact kit_dict_int | exact kit_dict_bool | exact kit_dict_str | exact kit_dict_tuple | exact kit_dict_list | exact kit_dict_dict | exact kit_NoneType_int | exact kit_NoneType_bool | exact kit_NoneType_str | exact kit_NoneType_tuple | exact kit_NoneType_list | exact kit_NoneType_dict))
  | ((with_reducible refine' v_truL ?k1 ?_); (case k1 => walk_at "vside"))
  | ((with_reducible refine' v_truT ?k1 ?_); (case k1 => walk_at "vside"))
  | ((with_reducible refine' v_maxD ?k1 ?_); (case k1 => walk_at "vside"))
  | ((with_reducible refine' v_minD ?k1 ?_); (case k1 => walk_at "vside"))
  | ((with_reducible refine' v_lenL ?k1 ?_); (case k1 => walk_at "vside"))
  | ((with_reducible refine' v_lenT ?k1 ?_); (case k1 => walk_at "vside"))
  | ((with_reducible refine' v_lenD ?k1 ?_); (case k1 => walk_at "vside"))
  | ((with_reducible refine' v_ixL ?k1 ?k2 ?_); (case k1 => walk_at "vside"); (case k2 => walk_at "vside"))
  | ((with_reducible refine' v_ixT ?k1 ?k2 ?_); (case k1 => walk_at "vside"); (case k2 => walk_at "vside"))
  | ((with_reducible refine' v_setL ?k1 ?k2 ?_); (case k1 => walk_at "vside"); (case k2 => walk_at "vside"))
  | ((with_reducible refine' v_isL ?k1 ?_); (case k1 => walk_at "vside"))
  | ((with_reducible refine' v_append ?k1 ?k2 ?_); (case k1 => walk_at "vside"); (case k2 => walk_at "vside"))
  | ((with_reducible refine' v_dputI ?k1 ?k2 ?_); (case k1 => walk_at "vside"); (case k2 => walk_at "vside"))
  | ((with_reducible refine' v_dgetI ?k1 ?k2 ?_); (case k1 => walk_at "vside"); (case k2 => walk_at "vside"))
  | ((with_reducible refine' v_dhasI ?k1 ?_); (case k1 => walk_at "vside"))
  | ((with_reducible refine' v_isqL ?k1 ?_); (case k1 => walk_at "vside"))
  | ((with_reducible refine' v_isqT ?k1 ?_); (case k1 => walk_at "vside"))
  | ((with_reducible refine' v_addS ?k1 ?_); (case k1 => walk_at "vside"))
  | ((with_reducible refine' v_lenSS ?k1 ?_); (case k1 => walk_at "vside"))
  | ((with_reducible refine' v_ixS ?k1 ?k2 ?_); (case k1 => walk_at "vside"); (case k2 => walk_at "vside"))
  | ((with_reducible refine' v_slS ?k1 ?_); (case k1 => walk_at "vside"))
  | ((with_reducible refine' v_idx ?k1 ?_); (case k1 => walk_at "vside"))
  | ((with_reducible refine' v_all ?k1 ?_); (case k1 => walk_at "vside"))
  | ((with_reducible refine' v_sum ?k1 ?_); (case k1 => walk_at "vside"))
  | ((with_reducible refine' v_rng1 ?k1 ?_); (case k1 => walk_at "vside"))
  | ((with_reducible refine' v_rng2 ?k1 ?_); (case k1 => walk_at "vside")))
local macro_rules | `(tactic| walk_at "vc") => `(tactic| repeat walk_at "v1")
local macro_rules | `(tactic| walk_at "vlen") => `(tactic| (intro vs H Q E h; (repeat' (obtain ⟨_, h⟩ := h)); first | (subst_vars; rfl) | (simp_all)))
open K45
section
variable {P : Program} {w : World} {K : PySem.W.Frag} {mg : Str → Option Value} {base : Heap}
def spLawRight (K : PySem.W.Frag) : Sp := fun vs H Q _ => ∃ (x : V) (o : Option (List V)) (L : List Nat), vs = [x, .str (S L)] ∧ L.length ≤ 100 ∧ Asc L ∧ Told K H x o ∧ ∀ H', Same H H' → Q (.bl true) H'
abbrev sLawRight : Stmt := top 18
theorem sc__law_right : FnScope ["told", "letters", "answer"] ["told", "letters"] (defScope sLawRight) := ⟨rfl, rfl, rfl, by decide +kernel, rfl, by decide +kernel, by decide +kernel⟩
theorem ok__law_right (T : Tx K mg) : Cal P w K mg base "_law_right" 3 ["told", "letters"] (spLawRight K) := by
  have sc := sc__law_right
  refine Cal.of T.d__law_right sc (fun _ _ _ _ _ _ us hl => match us, hl with | [_, _], _ => rfl) (by walk_at "vlen") (fun f cdv A outer s H vs Q E hr h => ?_)
  obtain ⟨x, o, L, rfl, hL, hA, hx, q⟩ := h
  refine ⟨_, (pss_cons
    (ps_set (i := 2) sc.nd rfl (Or.inl rfl) (pe_cal (ok_is_complete T) hr passL (pa_cons (pv 0) (pa_cons (pv 1) pa_nil))))
    (pss_one
    (ps_ret (pe_and (pe_callB (k_isi (K := K) rfl) rfl T.f_isinstance boot_isinstance (pa_cons (pv 2) (pa_cons (pe_bltn (v := .ty "bool") (u := .type "bool") rfl T.f_bool (by decide +kernel) rfl) pa_nil))) (pe_one (pe_cmpR op_eq (pv 2) (pe_cal (ok__law_leaves T) hr passL (pa_cons (pv 0) (pa_cons (pv 1) pa_nil))) (nomark _))))))), ?_⟩
  have s0 : ∀ v0 v1 : V, start ["told", "letters", "answer"] [v0, v1] = [some v0, some v1, none] := fun _ _ => rfl
  rw [s0]
  walk_at "vc"
  refine ⟨x, o, L, rfl, hL, hx, fun b1 H1 hb1 s1 => ?_⟩
  walk_at "vc"
  refine ⟨x, o, L, rfl, hL, hA, hx.same s1, fun b2 hb2 => ?_⟩
  have e : b1 = b2 := by
    rw [Bool.eq_iff_iff, hb1, hb2]
    exact exists_congr fun ws => and_congr_right fun _ => and_congr_right fun _ => whole hA ws
  subst e
  refine v_eq (by cases b1 <;> rfl) ?_
  rw [decide_eq_true rfl]
  exact q _ s1
theorem map_erase {α β : Type} (f : α → β) : ∀ (l : List α) (k : Nat), (l.eraseIdx k).map f = (l.map f).eraseIdx k
  | [], _ => rfl
  | _ :: _, 0 => rfl
  | x :: r, k + 1 => by
    show f x :: (r.eraseIdx k).map f = f x :: (r.map f).eraseIdx k
    rw [map_erase f r k]
theorem erase_perm {α : Type} : ∀ (l : List α) (k : Nat) (c : α), l[k]? = some c → (c :: l.eraseIdx k).Perm l
  | [], _, _, h => by simp at h
  | x :: r, 0, c, h => by
    cases h
    exact List.Perm.refl _
  | x :: r, k + 1, c, h => (List.Perm.swap x c _).trans ((erase_perm r k c h).cons x)
def spLawSome (K : PySem.W.Frag) : Sp := fun vs H Q _ => ∃ (p : Addr) (m : Nat) (L : List Nat), vs = [.ref p, .int m, .str (S L)] ∧ PoolAt H p ∧ m ≤ L.length ∧ L.length ≤ 1000 ∧
  ∀ out rest H', But p H H' → PoolAt H' p → out.length = m → (out ++ rest).Perm L → Q (.str (S out)) H'
abbrev sLawSome : Stmt := top 11
theorem sc__law_some : FnScope ["pool", "many", "signs", "left", "out", "k"] ["pool", "many", "signs"] (defScope sLawSome) := ⟨rfl, rfl, rfl, by decide +kernel, rfl, by decide +kernel, by decide +kernel⟩
theorem ok__law_some (T : Tx K mg) : Cal P w K mg base "_law_some" 2 ["pool", "many", "signs"] (spLawSome K) := by
  have sc := sc__law_some
  refine Cal.of T.d__law_some sc (fun _ _ _ _ _ _ us hl => match us, hl with | [_, _, _], _ => rfl) (by walk_at "vlen") (fun f cdv A outer s H vs Q E hr h => ?_)
  obtain ⟨p, m, L, rfl, hp, hm, hL, q⟩ := h
  refine ⟨_, (pss_cons
    (ps_set (i := 3) sc.nd rfl (Or.inl rfl) (pe_callTy (w_listS rfl) rfl T.f_list (by decide +kernel) (pa_cons (pv 2) pa_nil)))
    (pss_cons
    (ps_set (i := 4) sc.nd rfl (Or.inl rfl) (pe_strS [] (by decide +kernel)))
    (pss_cons
    (ps_for (passes_of rfl) rfl (pi_range1 rfl T.f_range (pa_cons (pv 1) pa_nil)) (pg_name (i := 5) sc.nd rfl (Or.inl rfl)) (pss_one
      (ps_set (i := 4) sc.nd rfl (Or.inl rfl) (pe_op w_addS (pv 4) (pe_bm PySem.F.plainAttrs_list PySem.F.slot_list_pop PySem.F.type_list_pop mt_popAt (pv 3) (pa_cons (pe_cal (ok__law_draw T) hr passL (pa_cons (pv 0) (pa_cons (pe_callB (k_len (K := K) rfl) rfl T.f_len PySem.boot_len (pa_cons (pv 3) pa_nil)) pa_nil))) pa_nil))))))
    (pss_one
    (ps_ret (pv 4)))))), ?_⟩
  have s0 : ∀ v0 v1 v2 : V, start ["pool", "many", "signs", "left", "out", "k"] [v0, v1, v2] = [some v0, some v1, some v2, none, none, none] := fun _ _ _ => rfl
  rw [s0]
  walk_at "vc"
  refine v_listS (by rw [sizeLine_eq]; omega) fun l hl => ?_
  have nl := hp.ne hl
  walk_at "vc"
  rw [Int.toNat_natCast]
  refine loop_range (fun i σ H' => ∃ (out rest : List Nat) (v : Option V), σ = [some (.ref p), some (.int m), some (.str (S L)), some (.ref l), some (.str (S out)), v] ∧ But p H H' ∧ PoolAt H' p ∧ H' l = some (.lst (rest.map sg)) ∧ out.length = i ∧ (out ++ rest).Perm L)
    ⟨[], L, none, rfl, (But.refl).fresh hl, hp.set nl, upd_same, rfl, List.Perm.refl _⟩ ?_ ?_
  · rintro i σ H1 hi ⟨out, rest, v, rfl, b1, p1, h1, ho, hperm⟩
    have hlen := hperm.length_eq
    rw [List.length_append] at hlen
    walk_at "vc"
    rw [List.length_map]
    refine v_draw p1 (by omega) fun d H2 d0 d1 b2 p2 => ?_
    have h2 := b2 l _ nl h1
    obtain ⟨c, hc⟩ : ∃ c, rest[d.toNat]? = some c := ⟨_, List.getElem?_eq_getElem (by omega)⟩
    walk_at "vc"
    refine v_popAt (y := sg c) h2 ⟨d0, by omega⟩ (by rw [List.getElem?_map, hc]; rfl) ?_
    walk_at "vc"
    refine ⟨out ++ [c], rest.eraseIdx d.toNat, _, rfl, (b1.trans b2).fresh hl, p2.set nl, ?_, by rw [List.length_append, List.length_singleton, ho], ?_⟩
    · rw [upd_same, map_erase]
    · refine List.Perm.trans ?_ hperm
      rw [List.append_assoc, List.singleton_append]
      exact List.Perm.append_left _ (erase_perm _ _ _ hc)
  · rintro σ H1 ⟨out, rest, v, rfl, b1, p1, h1, ho, hperm⟩
    walk_at "vc"
    exact q out rest H1 b1 p1 ho hperm
def spl (ws : List (List Nat)) (k : Nat) (u : List Nat) (L : List Nat) : List (List Nat) := ws.take k ++ L.map (fun c => u ++ [c]) ++ ws.drop (k + 1)
def spLawSplit (K : PySem.W.Frag) : Sp := fun vs H Q _ => ∃ (a : Addr) (ws : List (List Nat)) (k : Nat) (u L : List Nat), vs = [.ref a, .int k, .str (S L)] ∧ H a = some (.lst (ws.map strV)) ∧ ws[k]? = some u ∧ ws.length ≤ 100000 ∧ u.length ≤ 100000 ∧ L.length ≤ 1000 ∧
  ∀ b H', Same H H' → H b = none → H' b = some (.lst ((spl ws k u L).map strV)) → Q (.ref b) H'
abbrev sLawSplit : Stmt := top 15
theorem sc__law_split : FnScope ["words", "at", "letters", "sign"] ["words", "at", "letters"] (defScope sLawSplit) := ⟨rfl, rfl, rfl, by decide +kernel, rfl, by decide +kernel, by decide +kernel⟩
theorem ok__law_split (T : Tx K mg) : Cal P w K mg base "_law_split" 1 ["words", "at", "letters"] (spLawSplit K) := by
  have sc := sc__law_split
  refine Cal.of T.d__law_split sc (fun _ _ _ _ _ _ us hl => match us, hl with | [_, _, _], _ => rfl) (by walk_at "vlen") (fun f cdv A outer s H vs Q E hr h => ?_)
  obtain ⟨a, ws, k, u, L, rfl, ha, hk, hw, hu, hL, q⟩ := h
  -- cells: ['at', 'words']
  refine ⟨_, (pss_one
    (ps_ret (pe_op op_cat (pe_op op_cat (pe_slice (k_slL (K := K) rfl) (pv 0) po_none (po_some (pv 1))) (pe_lc (own := [("sign", 3)]) rfl sc.nd (pi_str (pv 2)) (blkOk_by (N := ["words", "at", "letters", "sign"]) (sc := defScope sLawSplit) (by decide +kernel)) (fun _ _ _ _ _ => (pg_name (i := 3) sc.nd rfl (Or.inl rfl))) (fun _ _ _ _ _ => pts_nil) (fun _ _ _ _ _ => (pe_op w_addS (pe_ix (k_ixL (K := K) rfl) (pv 0) (pv 1) (fun _ _ => rfl)) (pv 3))))) (pe_slice (k_slL (K := K) rfl) (pv 0) (po_some (pe_op w_add (pv 1) pe_int)) po_none)))), ?_⟩
  have s0 : ∀ v0 v1 v2 : V, start ["words", "at", "letters", "sign"] [v0, v1, v2] = [some v0, some v1, some v2, none] := fun _ _ _ => rfl
  rw [s0]
  walk_at "vc"
  refine v_slL (SqL.of ha) fun p1 f1 => ?_
  have s1 : Same H (upd H p1 (.lst (cutV (ws.map strV) none (some (k : Int))))) := (Same.refl H).vnew f1
  have g1 : (upd H p1 (.lst (cutV (ws.map strV) none (some (k : Int))))) p1 = some (.lst ((ws.take k).map strV)) := by rw [upd_same, cutV_to, List.map_take]
  generalize upd H p1 (.lst (cutV (ws.map strV) none (some (k : Int)))) = H1 at s1 g1
  have ha1 := s1 _ _ ha
  have eat : atI (ws.map strV) (k : Int) = some (.str (S u)) := at_tupS (by omega) (by rw [Int.toNat_natCast]; exact hk)
  walk_at "vc"
  intro D hD
  refine lc_s (fun i H' => H' = upd H1 D (.lst ((L.take i).map fun c => V.str (S (u ++ [c]))))) (by simp) (fun i c H' hi e => ?_) (fun H' e => ?_)
  · subst e
    have ha2 := ((Same.refl H1).vnew (o := .lst ((L.take i).map fun c => V.str (S (u ++ [c])))) hD) _ _ ha1
    walk_at "vc"
    refine ⟨rfl, ?_⟩
    walk_at "vc"
    exact lc_step (f := fun c => V.str (S (u ++ [c]))) hi (by omega)
  · subst e
    rw [List.take_length]
    have s2 : Same H1 (upd H1 D (.lst (L.map fun c => V.str (S (u ++ [c]))))) := (Same.refl H1).vnew hD
    have g2 : (upd H1 D (.lst (L.map fun c => V.str (S (u ++ [c]))))) D = some (.lst ((L.map fun c => u ++ [c]).map strV)) := by rw [upd_same, List.map_map]; rfl
    generalize upd H1 D (.lst (L.map fun c => V.str (S (u ++ [c])))) = H2 at s2 g2
    refine v_cat (s2 _ _ g1) g2 (by rw [List.length_map, List.length_map, List.length_map, List.length_take, sizeLine_eq]; omega) fun p2 f2 => ?_
    rw [← List.map_append]
    have s3 : Same H2 (upd H2 p2 (.lst ((ws.take k ++ L.map fun c => u ++ [c]).map strV))) := (Same.refl H2).vnew f2
    have g3 : (upd H2 p2 (.lst ((ws.take k ++ L.map fun c => u ++ [c]).map strV))) p2 = some (.lst ((ws.take k ++ L.map fun c => u ++ [c]).map strV)) := upd_same
    generalize upd H2 p2 (.lst ((ws.take k ++ L.map fun c => u ++ [c]).map strV)) = H3 at s3 g3
    have ha3 := s3 _ _ (s2 _ _ ha1)
    walk_at "vc"
    refine v_slL (SqL.of ha3) fun p3 f3 => ?_
    rw [show (k : Int) + 1 = ((k + 1 : Nat) : Int) by omega, cutV_from, ← List.map_drop]
    have s4 : Same H3 (upd H3 p3 (.lst ((ws.drop (k + 1)).map strV))) := (Same.refl H3).vnew f3
    have g4 : (upd H3 p3 (.lst ((ws.drop (k + 1)).map strV))) p3 = some (.lst ((ws.drop (k + 1)).map strV)) := upd_same
    generalize upd H3 p3 (.lst ((ws.drop (k + 1)).map strV)) = H4 at s4 g4
    walk_at "vc"
    refine v_cat (s4 _ _ g3) g4 (by rw [List.length_map, List.length_map, List.length_append, List.length_map, List.length_take, List.length_drop, sizeLine_eq]; omega) fun p4 f4 => ?_
    rw [← List.map_append]
    have s5 := (s1.trans s2).trans (s3.trans s4)
    refine q p4 _ (s5.vnew f4) ?_ upd_same
    cases e : H p4 with
    | none => rfl
    | some o => rw [s5 _ _ e] at f4; cases f4
end
end RC
namespace RC
open PySem PySem.Spec PyProof.Rows L2
local macro_rules | `(tactic| walk_at "vside") => `(tactic| first | assumption | exact rfl | omega | exact Nat.le_of_ble_eq_true rfl | exact SqL.of (by assumption) | exact SqT.of (by assumption) | exact SqL.of upd_same | exact SqT.of upd_same | exact upd_same | exact Rd.of (by assumption) | exact Rd.of upd_same | (rw [sizeLine_eq]; omega) | (simp only [List.length_append, List.length_cons, List.length_nil, List.length_map, sizeLine_eq]; omega))
local macro_rules | `(tactic| walk_at "v1") => `(tactic| first
  | (with_reducible first
    | refine v_seq ?_ | refine v_asg ?_ | refine v_ret ?_ | refine v_retN ?_ | refine v_next ?_ | refine v_drop ?_ | refine v_if ?_ | refine v_test ?_ | refine v_tB ?_ | refine v_bl ?_ | refine v_not ?_ | refine v_and ?_ | refine v_or ?_
    | refine v_andV ?_ | refine v_orV ?_ | refine v_notV ?_ | refine v_ifE ?_ | refine v_C ?_ | refine v_op ?_ | refine v_un ?_ | refine v_CB ?_ | refine v_CKw ?_ | refine v_nil ?_ | refine v_cons ?_ | refine v_call ?_ | refine v_tup ?_ | refine v_lst ?_
    | refine v_revT ?_ | refine v_sl ?_ | refine v_noPart ?_ | refine v_part ?_ | refine v_partI ?_ | refine v_add ?_ | refine v_sub ?_ | refine v_lt ?_ | refine v_le ?_ | refine v_gt ?_ | refine v_ge ?_ | refine v_neg ?_ | refine v_abs ?_ | refine v_int ?_
    | refine v_min2 ?_ | refine v_max2 ?_ | refine v_gSub ?_ | refine v_BM ?_ | refine v_BM0 ?_ | refine v_dput ?_ | refine v_dget ?_ | refine v_dnotin ?_ | refine v_din ?_ | refine v_for ?_ | refine v_iRng1 ?_ | refine v_iRng2 ?_ | refine v_iList ?_ | refine v_iTup ?_ | refine v_lc ?_ | refine v_yes ?_ | refine v_chain ?_ | refine v_M1 ?_ | refine v_M0 ?_ | refine v_isStr ?_ | refine v_start ?_ | refine v_leS ?_ | refine v_inS ?_ | refine v_iStr ?_ | refine v_isS ?_ | refine v_intB' ?_ | refine v_tru ?_ | refine v_iteT ?_ | refine v_iteF ?_ | refine v_iteNT ?_ | refine v_iteNF ?_ | refine v_iKeys ?_)
  | ((with_reducible refine' v_var ?k1 ?_); (case k1 => exact rfl))
  | ((with_reducible refine' v_gName ?k1 ?_); (case k1 => (dsimp only [List.set, L2.wipe, List.map]; try exact rfl)))
  | ((with_reducible refine' v_mul ?k1 ?_); (case k1 => walk_at "vside"))
  | ((with_reducible refine' v_div ?k1 ?_); (case k1 => walk_at "vside"))
  | ((with_reducible refine' v_mod ?k1 ?_); (case k1 => walk_at "vside"))
  | ((with_reducible refine' v_eq ?k1 ?_); (case k1 => exact rfl))
  | ((with_reducible refine' v_ne ?k1 ?_); (case k1 => exact rfl))
  | ((with_reducible refine' v_isi ?k1 ?k2 ?_); (case k1 => first | exact tyX_tup (by assumption) | exact .base (.int _) | exact .base (.bl _) | exact .base (.str _) | exact .base .non | exact .base (.lst (by assumption)) | exact .base (.tup (by assumption)) | exact .base (.dK (by assumption))); (case k2 => first | exact kit_int_int | exact kit_int_bool | exact kit_int_str | exact kit_int_tuple | exact kit_int_list | exact kit_int_dict | exact kit_bool_int | exact kit_bool_bool | exact kit_bool_str | exact kit_bool_tuple | exact kit_bool_list | exact kit_bool_dict | exact kit_str_int | exact kit_str_bool | exact kit_str_str | exact kit_str_tuple | exact kit_str_list | exact kit_str_dict | exact kit_tuple_int | exact kit_tuple_bool | exact kit_tuple_str | exact kit_tuple_tuple | exact kit_tuple_list | exact kit_tuple_dict | exact kit_list_int | exact kit_list_bool | exact kit_list_str | exact kit_list_tuple | exact kit_list_list | exact kit_list_dict | exact kit_dict_int | exact kit_dict_bool | exact kit_dict_str | exact kit_dict_tuple | exact kit_dict_list | exact kit_dict_dict | exact kit_NoneType_int | exact kit_NoneType_bool | exact kit_NoneType_str | exact kit_NoneType_tuple | exact kit_NoneType_list | exact kit_NoneType_dict))
  | ((with_reducible refine' v_truL ?k1 ?_); (case k1 => walk_at "vside"))
  | ((with_reducible refine' v_truT ?k1 ?_); (case k1 => walk_at "vside"))
  | ((with_reducible refine' v_maxD ?k1 ?_); (case k1 => walk_at "vside"))
  | ((with_reducible refine' v_minD ?k1 ?_); (case k1 => walk_at "vside"))
  | ((with_reducible refine' v_lenL ?k1 ?_); (case k1 => walk_at "vside"))
  | ((with_reducible refine' v_lenT ?k1 ?_); (case k1 => walk_at "vside"))
  | ((with_reducible refine' v_lenD ?k1 ?_); (case k1 => walk_at "vside"))
  | ((with_reducible refine' v_ixL ?k1 ?k2 ?_); (case k1 => walk_at "vside"); (case k2 => walk_at "vside"))
  | ((with_reducible refine' v_ixT ?k1 ?k2 ?_); (case k1 => walk_at "vside"); (case k2 => walk_at "vside"))
  | ((with_reducible refine' v_setL ?k1 ?k2 ?_); (case k1 => walk_at "vside"); (case k2 => walk_at "vside"))
  | ((with_reducible refine' v_isL ?k1 ?_); (case k1 => walk_at "vside"))
  | ((with_reducible refine' v_append ?k1 ?k2 ?_); (case k1 => walk_at "vside"); (case k2 => walk_at "vside"))
  | ((with_reducible refine' v_dputI ?k1 ?k2 ?_); (case k1 => walk_at "vside"); (case k2 => walk_at "vside"))
  | ((with_reducible refine' v_dgetI ?k1 ?k2 ?_); (case k1 => walk_at "vside"); (case k2 => walk_at "vside"))
  | ((with_reducible refine' v_dhasI ?k1 ?_); (case k1 => walk_at "vside"))
  | ((with_reducible refine' v_isqL ?k1 ?_); (case k1 => walk_at "vside"))
  | ((with_reducible refine' v_isqT ?k1 ?_); (case k1 => walk_at "vside"))
  | ((with_reducible refine' v_addS ?k1 ?_); (case k1 => walk_at "vside"))
  | ((with_reducible refine' v_lenSS ?k1 ?_); (case k1 => walk_at "vside"))
  | ((with_reducible refine' v_ixS ?k1 ?k2 ?_); (case k1 => walk_at "vside"); (case k2 => walk_at "vside"))
  | ((with_reducible refine' v_slS ?k1 ?_); (case k1 => walk_at "vside"))
  | ((with_reducible refine' v_idx ?k1 ?_); (case k1 => walk_at "vside"))
  | ((with_reducible refine' v_all ?k1 ?_); (case k1 => walk_at "vside"))
  | ((with_reducible refine' v_sum ?k1 ?_); (case k1 => walk_at "vside"))
  | ((with_reducible refine' v_rng1 ?k1 ?_); (case k1 => walk_at "vside"))
  | ((with_reducible refine' v_rng2 ?k1 ?_); (case k1 => walk_at "vside")))
local macro_rules | `(tactic| walk_at "vc") => `(tactic| repeat walk_at "v1")
local macro_rules | `(tactic| walk_at "vlen") => `(tactic| (intro vs H Q E h; (repeat' (obtain ⟨_, h⟩ := h)); first | (subst_vars; rfl) | (simp_all)))
open K45
section
variable {P : Program} {w : World} {K : PySem.W.Frag} {mg : Str → Option Value} {base : Heap}
theorem But.same {p : Addr} {H H1 H2 : Hp} (x : But p H H1) (s : Same H1 H2) : But p H H2 := fun b o n e => s _ _ (x b o n e)
theorem PoolAt.same {p : Addr} {H H' : Hp} (h : PoolAt H p) (s : Same H H') : PoolAt H' p := by
  obtain ⟨i, j, k, h⟩ := h
  exact ⟨i, j, k, s _ _ h⟩
theorem spl_len {ws : List (List Nat)} {k : Nat} {u L : List Nat} (h : ws[k]? = some u) : (spl ws k u L).length + 1 = ws.length + L.length := by
  have := (List.getElem?_eq_some_iff.mp h).1
  unfold spl
  rw [List.length_append, List.length_append, List.length_map, List.length_take, List.length_drop]
  omega
theorem spl_bound {ws : List (List Nat)} {k n : Nat} {u L : List Nat} (h : ws[k]? = some u) (b : ∀ v ∈ ws, v.length ≤ n) : ∀ v ∈ spl ws k u L, v.length ≤ n + 1 := fun v hv => by
  unfold spl at hv
  rcases List.mem_append.mp hv with hv | hv
  · rcases List.mem_append.mp hv with hv | hv
    · have := b v (List.mem_of_mem_take hv)
      omega
    · obtain ⟨c, _, rfl⟩ := List.mem_map.mp hv
      have := b u (List.mem_of_getElem? h)
      rw [List.length_append, List.length_singleton]
      omega
  · have := b v (List.mem_of_mem_drop hv)
    omega
/-- a list of texts behind an open start -/
def Wl (p : Addr) (H H' : Hp) (a : Addr) (ws : List (List Nat)) (n m : Nat) : Prop := But p H H' ∧ PoolAt H' p ∧ H a = none ∧ H' a = some (.lst (ws.map strV)) ∧ ws.length = n ∧ ∀ u ∈ ws, u.length ≤ m
theorem Wl.draw {p a : Addr} {H H' H2 : Hp} {ws : List (List Nat)} {n m : Nat} (x : Wl p H H' a ws n m) (b : But p H' H2) (p2 : PoolAt H2 p) (np : a ≠ p) : Wl p H H2 a ws n m :=
  ⟨x.1.trans b, p2, x.2.2.1, b _ _ np x.2.2.2.1, x.2.2.2.2⟩
theorem Wl.np {p a : Addr} {H H' : Hp} {ws : List (List Nat)} {n m : Nat} (x : Wl p H H' a ws n m) (hp : PoolAt H p) : a ≠ p := hp.ne x.2.2.1
theorem Wl.split {p a b : Addr} {H H1 H2 : Hp} {ws : List (List Nat)} {n m k : Nat} {u L : List Nat} (x : Wl p H H1 a ws n m) (s : Same H1 H2) (f : H1 b = none) (e : H2 b = some (.lst ((spl ws k u L).map strV))) (h : ws[k]? = some u) (hp : PoolAt H p) (hL : 1 ≤ L.length) :
    Wl p H H2 b (spl ws k u L) (n + (L.length - 1)) (m + 1) := by
  have nb : b ≠ p := x.2.1.ne f
  refine ⟨x.1.same s, x.2.1.same s, x.1.free f nb, e, ?_, spl_bound h x.2.2.2.2.2⟩
  have := spl_len (L := L) h
  have := x.2.2.2.2.1
  omega
def spLawList (K : PySem.W.Frag) : Sp := fun vs H Q _ => ∃ (p : Addr) (L : List Nat), vs = [.ref p, .str (S L)] ∧ PoolAt H p ∧ L.length ≤ 6 ∧
  ∀ a ws n H', Wl p H H' a ws n 6000 → 1 ≤ n → n ≤ 6000 → Q (.ref a) H'
abbrev sLawList : Stmt := top 16
theorem sc__law_list : FnScope ["pool", "letters", "words", "way", "k", "at", "many", "sign"] ["pool", "letters"] (defScope sLawList) := ⟨rfl, rfl, rfl, by decide +kernel, rfl, by decide +kernel, by decide +kernel⟩
theorem ok__law_list (T : Tx K mg) : Cal P w K mg base "_law_list" 2 ["pool", "letters"] (spLawList K) := by
  have sc := sc__law_list
  refine Cal.of T.d__law_list sc (fun _ _ _ _ _ _ us hl => match us, hl with | [_, _], _ => rfl) (by walk_at "vlen") (fun f cdv A outer s H vs Q E hr h => ?_)
  obtain ⟨p, L, rfl, hp, hL, q⟩ := h
  -- cells: ['k', 'words']
  refine ⟨_, (pss_cons
    (ps_set (i := 2) sc.nd rfl (Or.inr rfl) (pe_lst (pa_cons (pe_strS [] (by decide +kernel)) pa_nil)))
    (pss_cons
    (ps_set (i := 3) sc.nd rfl (Or.inl rfl) (pe_cal (ok__law_draw T) hr passL (pa_cons (pv 0) (pa_cons pe_int pa_nil))))
    (pss_cons
    (ps_if (pt_cmpR op_eq (pv 1) (pe_strS [] (by decide +kernel)) (nomark _)) (pss_one
      (ps_ret (pv 2))) pss_nil)
    (pss_join
    (ps_if (pt_cmpR w_lt (pv 3) pe_int (nomark _)) (pss_one
      (ps_for (passes_of rfl) rfl (pi_range1 rfl T.f_range (pa_cons (pe_ix (k_ixL (K := K) rfl) (pe_lst (pa_cons pe_int (pa_cons pe_int (pa_cons pe_int (pa_cons pe_int (pa_cons pe_int (pa_cons pe_int (pa_cons pe_int pa_nil)))))))) (pe_cal (ok__law_draw T) hr passL (pa_cons (pv 0) (pa_cons pe_int pa_nil))) (fun _ _ => rfl)) pa_nil)) (pg_name (i := 4) sc.nd rfl (Or.inr rfl)) (pss_one
        (ps_set (i := 2) sc.nd rfl (Or.inr rfl) (pe_cal (ok__law_split T) hr passL (pa_cons (pv 2) (pa_cons (pe_cal (ok__law_draw T) hr passL (pa_cons (pv 0) (pa_cons (pe_callB (k_len (K := K) rfl) rfl T.f_len PySem.boot_len (pa_cons (pv 2) pa_nil)) pa_nil))) (pa_cons (pv 1) pa_nil)))))))) (pss_one
      (ps_if (pt_cmpR w_lt (pv 3) pe_int (nomark _)) (pss_one
        (ps_for (passes_of rfl) rfl (pi_range1 rfl T.f_range (pa_cons (pe_cal (ok__law_draw T) hr passL (pa_cons (pv 0) (pa_cons pe_int pa_nil))) pa_nil)) (pg_name (i := 4) sc.nd rfl (Or.inr rfl)) (pss_one
          (ps_set (i := 2) sc.nd rfl (Or.inr rfl) (pe_cal (ok__law_split T) hr passL (pa_cons (pv 2) (pa_cons (pe_cal (ok__law_draw T) hr passL (pa_cons (pv 0) (pa_cons (pe_callB (k_len (K := K) rfl) rfl T.f_len PySem.boot_len (pa_cons (pv 2) pa_nil)) pa_nil))) (pa_cons (pv 1) pa_nil)))))))) (pss_one
        (ps_if (PW.pt (pw_or (pt_cmpR w_lt (pv 3) pe_int (nomark _)) (pw_or1 (pt_cmpR op_eq (pe_callB w_lenS rfl T.f_len PySem.boot_len (pa_cons (pv 1) pa_nil)) pe_int (nomark _))))) (pss_cons
          (ps_set (i := 5) sc.nd rfl (Or.inl rfl) pe_int)
          (pss_one
          (ps_for (passes_of rfl) rfl (pi_range1 rfl T.f_range (pa_cons (pe_op w_add pe_int (pe_cal (ok__law_draw T) hr passL (pa_cons (pv 0) (pa_cons pe_int pa_nil)))) pa_nil)) (pg_name (i := 4) sc.nd rfl (Or.inr rfl)) (pss_cons
            (ps_set (i := 2) sc.nd rfl (Or.inr rfl) (pe_cal (ok__law_split T) hr passL (pa_cons (pv 2) (pa_cons (pv 5) (pa_cons (pv 1) pa_nil)))))
            (pss_one
            (ps_set (i := 5) sc.nd rfl (Or.inl rfl) (pe_op w_add (pv 5) (pe_cal (ok__law_draw T) hr passL (pa_cons (pv 0) (pa_cons (pe_callB w_lenS rfl T.f_len PySem.boot_len (pa_cons (pv 1) pa_nil)) pa_nil)))))))))) (pss_cons
          (ps_set (i := 6) sc.nd rfl (Or.inl rfl) (pe_op w_add (pe_op w_fdiv pe_int (pe_op w_sub (pe_callB w_lenS rfl T.f_len PySem.boot_len (pa_cons (pv 1) pa_nil)) pe_int)) (pe_cal (ok__law_draw T) hr passL (pa_cons (pv 0) (pa_cons pe_int pa_nil)))))
          (pss_cons
          (ps_for (passes_of rfl) rfl (pi_range1 rfl T.f_range (pa_cons (pv 6) pa_nil)) (pg_name (i := 4) sc.nd rfl (Or.inr rfl)) (pss_one
            (ps_expr (pe_bm PySem.F.plainAttrs_list PySem.F.slot_list_extend PySem.F.type_list_extend mt_extend (pv 2) (pa_cons (pe_lc (own := [("sign", 7)]) rfl sc.nd (pi_str (pv 1)) (blkOk_by (N := ["pool", "letters", "words", "way", "k", "at", "many", "sign"]) (sc := defScope sLawList) (by decide +kernel)) (fun _ _ _ _ _ => (pg_name (i := 7) sc.nd rfl (Or.inl rfl))) (fun _ _ _ _ _ => pts_nil) (fun _ _ _ _ _ => (pe_op w_addS (pe_ix (k_ixL (K := K) rfl) (pv 2) (pv 4) (fun _ _ => rfl)) (pv 7)))) pa_nil)))))
          (pss_one
          (ps_set (i := 2) sc.nd rfl (Or.inr rfl) (pe_callB (k_sortS (K := K) rfl) rfl T.f_sorted (by decide +kernel) (pa_cons (pe_slice (k_slL (K := K) rfl) (pv 2) (po_some (pv 6)) po_none) pa_nil)))))))))))
    (pss_one
    (ps_ret (pv 2))))))), ?_⟩
  have s0 : ∀ v0 v1 : V, start ["pool", "letters", "words", "way", "k", "at", "many", "sign"] [v0, v1] = [some v0, some v1, none, none, none, none, none, none] := fun _ _ => rfl
  rw [s0]
  walk_at "vc"
  refine ⟨Nat.le_of_ble_eq_true rfl, fun a0 f0 => ?_⟩
  have n0 := hp.ne f0
  walk_at "vc"
  have x0 : Wl p H (upd H a0 (.lst [V.str (S [])])) a0 [[]] 1 0 := ⟨(But.refl).fresh f0, hp.set n0, f0, upd_same, rfl, fun u hu => by rw [List.mem_singleton.mp hu]; exact Nat.le_refl _⟩
  generalize upd H a0 (.lst [V.str (S [])]) = H0 at x0
  refine v_draw x0.2.1 (by omega) fun way H1 w0 w1 b1 p1 => ?_
  have x1 := x0.draw b1 p1 n0
  walk_at "vc"
  refine v_dec (fun h => ?_) (fun h => ?_)
  · walk_at "vc"
    exact q a0 _ 1 H1 ⟨x1.1, x1.2.1, x1.2.2.1, x1.2.2.2.1, x1.2.2.2.2.1, fun u hu => by have := x1.2.2.2.2.2 u hu; omega⟩ (by omega) (by omega)
  have hl1 : 1 ≤ L.length := Nat.pos_of_ne_zero fun e => h (S_eqV.mpr (List.length_eq_zero_iff.mp e))
  have sml : ∀ {a ws n m Hx}, Wl p H Hx a ws n m → m ≤ 6000 → Wl p H Hx a ws n 6000 := fun x e => ⟨x.1, x.2.1, x.2.2.1, x.2.2.2.1, x.2.2.2.2.1, fun u hu => by have := x.2.2.2.2.2 u hu; omega⟩
  walk_at "vc"
  refine v_join (fun σ' H' => ∃ (a : Addr) (ws : List (List Nat)) (n : Nat) (u3 u4 u5 u6 u7 : Option V), σ' = [some (.ref p), some (.str (S L)), some (.ref a), u3, u4, u5, u6, u7] ∧ Wl p H H' a ws n 6000 ∧ 1 ≤ n ∧ n ≤ 6000) ?_ ?_
  rotate_left
  · rintro σ' H' ⟨a, ws, n, u3, u4, u5, u6, u7, rfl, x, h1, h2⟩
    walk_at "vc"
    exact q a ws n H' x h1 h2
  walk_at "vc"
  refine v_dec (fun h2 => ?_) (fun h2 => ?_)
  · walk_at "vc"
    refine ⟨Nat.le_of_ble_eq_true rfl, fun l hl => ?_⟩
    have nl := x1.2.1.ne hl
    have x2 : Wl p H (upd H1 l (.lst (([0, 1, 2, 3, 5, 8, 12] : List Int).map V.int))) a0 [[]] 1 0 := ⟨(x1.1).new hl, x1.2.1.set nl, x1.2.2.1, by rw [upd_ne (ne_of_none x1.2.2.2.1 hl)]; exact x1.2.2.2.1, x1.2.2.2.2⟩
    walk_at "vc"
    refine v_draw x2.2.1 (by omega) fun d H3 d0 d1 b3 p3 => ?_
    have x3 := x2.draw b3 p3 n0
    have h3 := b3 l _ nl upd_same
    obtain ⟨N, hN, hN2⟩ := at_some (ns := [0, 1, 2, 3, 5, 8, 12]) d0 d1
    have hN3 : 0 ≤ N ∧ N ≤ 12 := (by decide : ∀ n ∈ ([0, 1, 2, 3, 5, 8, 12] : List Int), 0 ≤ n ∧ n ≤ 12) N hN2
    walk_at "vc"
    refine loop_range (fun i σ H' => ∃ (a : Addr) (ws : List (List Nat)) (n : Nat) (v4 : Option V), σ = [some (.ref p), some (.str (S L)), some (.ref a), some (.int way), v4, none, none, none] ∧ Wl p H H' a ws n i ∧ 1 ≤ n ∧ n ≤ 1 + 5 * i)
      ⟨a0, [[]], 1, none, rfl, x3, by omega, by omega⟩ ?_ ?_
    · rintro i σ H4 hi ⟨a, ws, n, v4, rfl, x, hn1, hn2⟩
      have np := x.np hp
      have ha := x.2.2.2.1
      have hlen := x.2.2.2.2.1
      walk_at "vc"
      rw [List.length_map]
      refine v_draw x.2.1 (by omega) fun d H5 d0 d1 b5 p5 => ?_
      have x5 := x.draw b5 p5 np
      obtain ⟨u, hu⟩ : ∃ u, ws[d.toNat]? = some u := ⟨_, List.getElem?_eq_getElem (by omega)⟩
      have lu := x.2.2.2.2.2 u (List.mem_of_getElem? hu)
      walk_at "vc"
      refine ⟨a, ws, d.toNat, u, L, by rw [Int.toNat_of_nonneg d0], x5.2.2.2.1, hu, by omega, by omega, by omega, fun b H6 s6 f6 e6 => ?_⟩
      walk_at "vc"
      exact ⟨b, _, _, _, rfl, x5.split s6 f6 e6 hu hp hl1, by omega, by omega⟩
    · rintro σ H4 ⟨a, ws, n, v4, rfl, x, hn1, hn2⟩
      exact ⟨a, ws, n, _, _, _, _, _, rfl, sml x (by omega), hn1, by omega⟩
  walk_at "vc"
  refine v_dec (fun h3 => ?_) (fun h3 => ?_)
  · walk_at "vc"
    refine v_draw x1.2.1 (by omega) fun N H3 d0 d1 b3 p3 => ?_
    have x3 := x1.draw b3 p3 n0
    walk_at "vc"
    refine loop_range (fun i σ H' => ∃ (a : Addr) (ws : List (List Nat)) (n : Nat) (v4 : Option V), σ = [some (.ref p), some (.str (S L)), some (.ref a), some (.int way), v4, none, none, none] ∧ Wl p H H' a ws n i ∧ 1 ≤ n ∧ n ≤ 1 + 5 * i)
      ⟨a0, [[]], 1, none, rfl, x3, by omega, by omega⟩ ?_ ?_
    · rintro i σ H4 hi ⟨a, ws, n, v4, rfl, x, hn1, hn2⟩
      have np := x.np hp
      have ha := x.2.2.2.1
      have hlen := x.2.2.2.2.1
      walk_at "vc"
      rw [List.length_map]
      refine v_draw x.2.1 (by omega) fun d H5 d0 d1 b5 p5 => ?_
      have x5 := x.draw b5 p5 np
      obtain ⟨u, hu⟩ : ∃ u, ws[d.toNat]? = some u := ⟨_, List.getElem?_eq_getElem (by omega)⟩
      have lu := x.2.2.2.2.2 u (List.mem_of_getElem? hu)
      walk_at "vc"
      refine ⟨a, ws, d.toNat, u, L, by rw [Int.toNat_of_nonneg d0], x5.2.2.2.1, hu, by omega, by omega, by omega, fun b H6 s6 f6 e6 => ?_⟩
      walk_at "vc"
      exact ⟨b, _, _, _, rfl, x5.split s6 f6 e6 hu hp hl1, by omega, by omega⟩
    · rintro σ H4 ⟨a, ws, n, v4, rfl, x, hn1, hn2⟩
      exact ⟨a, ws, n, _, _, _, _, _, rfl, sml x (by omega), hn1, by omega⟩
  -- along one path
  have path : ∀ Dn : Ends, (∀ (a : Addr) (ws : List (List Nat)) (n : Nat) (u3 u4 u5 u6 u7 : Option V) (H' : Hp), Wl p H H' a ws n 6000 → 1 ≤ n → n ≤ 6000 → Dn.nx [some (.ref p), some (.str (S L)), some (.ref a), u3, u4, u5, u6, u7] H') →
      tSeq (tAsg (tC (.int 0)) (gName 5)) (tFor (iRng1 (tCons (tOp oAdd (tC (.int 57)) (tCall (spLawDraw K) [] E0 (tCons (tVar 0) (tCons (tC (.int 5)) tNil)))) tNil)) (gName 4) (tSeq (tAsg (tCall (spLawSplit K) [] E0 (tCons (tVar 2) (tCons (tVar 5) (tCons (tVar 1) tNil)))) (gName 2))
        (tAsg (tOp oAdd (tVar 5) (tCall (spLawDraw K) [] E0 (tCons (tVar 0) (tCons (tCB bLenS (tCons (tVar 1) tNil)) tNil)))) (gName 5)))) Dn [some (.ref p), some (.str (S L)), some (.ref a0), some (.int way), none, none, none, none] H1 := fun Dn fin => by
    walk_at "vc"
    refine v_draw x1.2.1 (by omega) fun N H3 d0 d1 b3 p3 => ?_
    have x3 := x1.draw b3 p3 n0
    walk_at "vc"
    refine loop_range (fun i σ H' => ∃ (a : Addr) (ws : List (List Nat)) (n at' : Nat) (v4 : Option V), σ = [some (.ref p), some (.str (S L)), some (.ref a), some (.int way), v4, some (.int at'), none, none] ∧ Wl p H H' a ws n i ∧ 1 ≤ n ∧ n ≤ 1 + 5 * i ∧ at' < n)
      ⟨a0, [[]], 1, 0, none, rfl, x3, by omega, by omega, by omega⟩ ?_ ?_
    · rintro i σ H4 hi ⟨a, ws, n, at', v4, rfl, x, hn1, hn2, hat⟩
      have np := x.np hp
      have hlen := x.2.2.2.2.1
      obtain ⟨u, hu⟩ : ∃ u, ws[at']? = some u := ⟨_, List.getElem?_eq_getElem (by omega)⟩
      have lu := x.2.2.2.2.2 u (List.mem_of_getElem? hu)
      walk_at "vc"
      refine ⟨a, ws, at', u, L, rfl, x.2.2.2.1, hu, by omega, by omega, by omega, fun b H6 s6 f6 e6 => ?_⟩
      have x6 := x.split s6 f6 e6 hu hp hl1
      walk_at "vc"
      refine v_draw x6.2.1 (by omega) fun d H7 d0 d1 b7 p7 => ?_
      walk_at "vc"
      exact ⟨b, _, _, at' + d.toNat, _, by rw [Int.natCast_add, Int.toNat_of_nonneg d0], x6.draw b7 p7 (x6.np hp), by omega, by omega, by omega⟩
    · rintro σ H4 ⟨a, ws, n, at', v4, rfl, x, hn1, hn2, hat⟩
      exact fin a ws n _ _ _ _ _ _ (sml x (by omega)) hn1 (by omega)
  walk_at "vc"
  refine v_dec (fun h4 => ?_) (fun h4 => ?_)
  · walk_at "v1"
    exact path _ fun a ws n u3 u4 u5 u6 u7 H' x e1 e2 => ⟨a, ws, n, u3, u4, u5, u6, u7, rfl, x, e1, e2⟩
  walk_at "vc"
  refine v_decI (fun h5 => ?_) (fun h5 => ?_)
  · walk_at "v1"
    exact path _ fun a ws n u3 u4 u5 u6 u7 H' x e1 e2 => ⟨a, ws, n, u3, u4, u5, u6, u7, rfl, x, e1, e2⟩
  walk_at "vc"
  refine v_draw x1.2.1 (by omega) fun d H3 d0 d1 b3 p3 => ?_
  have x3 := x1.draw b3 p3 n0
  obtain ⟨many, hmany⟩ : ∃ m : Nat, 4999 / ((L.length : Int) - 1) + d = (m : Int) := ⟨(4999 / ((L.length : Int) - 1) + d).toNat, (Int.toNat_of_nonneg (by have : 0 ≤ 4999 / ((L.length : Int) - 1) := Int.ediv_nonneg (by omega) (by omega); omega)).symm⟩
  have hm1 : (many : Int) * ((L.length : Int) - 1) ≤ 4999 + 5 := by
    rw [← hmany, Int.add_mul]
    have e1 := Int.ediv_mul_le 4999 (b := (L.length : Int) - 1) (by omega)
    have e2 : d * ((L.length : Int) - 1) ≤ 1 * 5 := Int.mul_le_mul (by omega) (by omega) (by omega) (by omega)
    omega
  have hm0 : (many : Int) ≤ 5004 := by
    have : (many : Int) * 1 ≤ (many : Int) * ((L.length : Int) - 1) := Int.mul_le_mul_of_nonneg_left (by omega) (by omega)
    omega
  walk_at "vc"
  rw [hmany, Int.toNat_natCast]
  refine loop_range (fun i σ H' => ∃ (ws : List (List Nat)) (v4 v7 : Option V), σ = [some (.ref p), some (.str (S L)), some (.ref a0), some (.int way), v4, none, some (.int many), v7] ∧ Wl p H H' a0 ws (1 + i * L.length) i)
    ⟨[[]], none, none, rfl, by simpa using x3⟩ ?_ ?_
  · rintro i σ H4 hi ⟨ws, v4, v7, rfl, x⟩
    have ha := x.2.2.2.1
    have hlen := x.2.2.2.2.1
    have hil : i * L.length ≤ 5004 * 6 := Nat.mul_le_mul (by omega) hL
    have hii : i ≤ i * L.length := Nat.le_mul_of_pos_right _ (by omega)
    obtain ⟨u, hu⟩ : ∃ u, ws[i]? = some u := ⟨_, List.getElem?_eq_getElem (by omega)⟩
    have lu := x.2.2.2.2.2 u (List.mem_of_getElem? hu)
    have eat : atI (ws.map strV) (0 + (i : Int)) = some (.str (S u)) := at_tupS (by omega) (by rw [show (0 + (i : Int)).toNat = i by omega]; exact hu)
    walk_at "vc"
    intro D hD
    refine lc_s (fun j H' => H' = upd H4 D (.lst ((L.take j).map fun c => V.str (S (u ++ [c]))))) (by simp) (fun j c H' hj e => ?_) (fun H' e => ?_)
    · subst e
      have ha2 := ((Same.refl H4).vnew (o := .lst ((L.take j).map fun c => V.str (S (u ++ [c])))) hD) _ _ ha
      walk_at "vc"
      refine ⟨rfl, ?_⟩
      walk_at "vc"
      exact lc_step (f := fun c => V.str (S (u ++ [c]))) hj (by omega)
    · subst e
      rw [List.take_length]
      have nD := x.2.1.ne hD
      have naD : a0 ≠ D := ne_of_none ha hD
      walk_at "vc"
      refine v_extend (zs := (L.map fun c => u ++ [c]).map strV) (by rw [upd_ne naD]; exact ha) (by rw [upd_same, List.map_map]; rfl) (by rw [List.length_map, List.length_map, List.length_map, sizeLine_eq]; omega) ?_
      walk_at "vc"
      refine ⟨ws ++ L.map (fun c => u ++ [c]), _, _, rfl, (x.1.new hD).fresh x.2.2.1, (x.2.1.set nD).set n0, x.2.2.1, by rw [upd_same, List.map_append], ?_, fun v hv => ?_⟩
      · rw [List.length_append, List.length_map, hlen, Nat.succ_mul]
        omega
      · rcases List.mem_append.mp hv with hv | hv
        · have := x.2.2.2.2.2 v hv
          omega
        · obtain ⟨c, _, rfl⟩ := List.mem_map.mp hv
          rw [List.length_append, List.length_singleton]
          omega
  · rintro σ H4 ⟨ws, v4, v7, rfl, x⟩
    have ha := x.2.2.2.1
    have hlen := x.2.2.2.2.1
    walk_at "vc"
    refine v_slL (SqL.of ha) fun q1 f1 => ?_
    rw [cutV_from, ← List.map_drop]
    have nq := x.2.1.ne f1
    walk_at "vc"
    refine v_sortS (SqL.of upd_same) fun us q2 pm _ f2 => ?_
    have nq2 := (x.2.1.set (o := .lst ((ws.drop many).map strV)) nq).ne f2
    walk_at "vc"
    have e1 := pm.length_eq
    rw [List.length_drop] at e1
    have e3 : (many : Int) * (L.length : Int) = (many : Int) * ((L.length : Int) - 1) + many := by rw [Int.mul_sub, Int.mul_one]; omega
    have e4 : ((many * L.length : Nat) : Int) = (many : Int) * (L.length : Int) := Int.natCast_mul _ _
    have e5 : (0 : Int) ≤ (many : Int) * ((L.length : Int) - 1) := Int.mul_nonneg (by omega) (by omega)
    refine ⟨q2, us, us.length, _, _, _, _, _, rfl, ⟨(x.1.new f1).new f2, (x.2.1.set nq).set nq2, ?_, upd_same, rfl, fun u hu => ?_⟩, by omega, by omega⟩
    · exact (x.1.new f1).free f2 nq2
    · have := x.2.2.2.2.2 u (List.mem_of_mem_drop (pm.mem_iff.mp hu))
      omega
end
end RC
namespace RC
open PySem PySem.Spec PyProof.Rows L2
local macro_rules | `(tactic| walk_at "vside") => `(tactic| first | assumption | exact rfl | omega | exact Nat.le_of_ble_eq_true rfl | exact SqL.of (by assumption) | exact SqT.of (by assumption) | exact SqL.of upd_same | exact SqT.of upd_same | exact upd_same | exact Rd.of (by assumption) | exact Rd.of upd_same | (rw [sizeLine_eq]; omega) | (simp only [List.length_append, List.length_cons, List.length_nil, List.length_map, sizeLine_eq]; omega))
local macro_rules | `(tactic| walk_at "v1") => `(tactic| first
  | (with_reducible first
    | refine v_seq ?_ | refine v_asg ?_ | refine v_ret ?_ | refine v_retN ?_ | refine v_next ?_ | refine v_drop ?_ | refine v_if ?_ | refine v_test ?_ | refine v_tB ?_ | refine v_bl ?_ | refine v_not ?_ | refine v_and ?_ | refine v_or ?_
    | refine v_andV ?_ | refine v_orV ?_ | refine v_notV ?_ | refine v_ifE ?_ | refine v_C ?_ | refine v_op ?_ | refine v_un ?_ | refine v_CB ?_ | refine v_CKw ?_ | refine v_nil ?_ | refine v_cons ?_ | refine v_call ?_ | refine v_tup ?_ | refine v_lst ?_
    | refine v_revT ?_ | refine v_sl ?_ | refine v_noPart ?_ | refine v_part ?_ | refine v_partI ?_ | refine v_add ?_ | refine v_sub ?_ | refine v_lt ?_ | refine v_le ?_ | refine v_gt ?_ | refine v_ge ?_ | refine v_neg ?_ | refine v_abs ?_ | refine v_int ?_
    | refine v_min2 ?_ | refine v_max2 ?_ | refine v_gSub ?_ | refine v_BM ?_ | refine v_BM0 ?_ | refine v_dput ?_ | refine v_dget ?_ | refine v_dnotin ?_ | refine v_din ?_ | refine v_for ?_ | refine v_iRng1 ?_ | refine v_iRng2 ?_ | refine v_iList ?_ | refine v_iTup ?_ | refine v_lc ?_ | refine v_yes ?_ | refine v_chain ?_ | refine v_M1 ?_ | refine v_M0 ?_ | refine v_isStr ?_ | refine v_start ?_ | refine v_leS ?_ | refine v_inS ?_ | refine v_iStr ?_ | refine v_isS ?_ | refine v_intB' ?_ | refine v_tru ?_ | refine v_iteT ?_ | refine v_iteF ?_ | refine v_iteNT ?_ | refine v_iteNF ?_ | refine v_iKeys ?_)
  | ((with_reducible refine' v_var ?k1 ?_); (case k1 => exact rfl))
  | ((with_reducible refine' v_gName ?k1 ?_); (case k1 => (dsimp only [List.set, L2.wipe, List.map]; try exact rfl)))
  | ((with_reducible refine' v_mul ?k1 ?_); (case k1 => walk_at "vside"))
  | ((with_reducible refine' v_div ?k1 ?_); (case k1 => walk_at "vside"))
  | ((with_reducible refine' v_mod ?k1 ?_); (case k1 => walk_at "vside"))
  | ((with_reducible refine' v_eq ?k1 ?_); (case k1 => exact rfl))
  | ((with_reducible refine' v_ne ?k1 ?_); (case k1 => exact rfl))
  | ((with_reducible refine' v_isi ?k1 ?k2 ?_); (case k1 => first | exact tyX_tup (by assumption) | exact .base (.int _) | exact .base (.bl _) | exact .base (.str _) | exact .base .non | exact .base (.lst (by assumption)) | exact .base (.tup (by assumption)) | exact .base (.dK (by assumption))); (case k2 => first | exact kit_int_int | exact kit_int_bool | exact kit_int_str | exact kit_int_tuple | exact kit_int_list | exact kit_int_dict | exact kit_bool_int | exact kit_bool_bool | exact kit_bool_str | exact kit_bool_tuple | exact kit_bool_list | exact kit_bool_dict | exact kit_str_int | exact kit_str_bool | exact kit_str_str | exact kit_str_tuple | exact kit_str_list | exact kit_str_dict | exact kit_tuple_int | exact kit_tuple_bool | exact kit_tuple_str | exact kit_tuple_tuple | exact kit_tuple_list | exact kit_tuple_dict | exact kit_list_int | exact kit_list_bool | exact kit_list_str | exact kit_list_tuple | exact kit_list_list | exact kit_list_dict | exact kit_dict_int | exact kit_dict_bool | exact kit_dict_str | exact kit_dict_tuple | exact kit_dict_list | exact kit_dict_dict | exact kit_NoneType_int | exact kit_NoneType_bool | exact kit_NoneType_str | exact kit_NoneType_tuple | exact kit_NoneType_list | exact kit_NoneType_dict))
  | ((with_reducible refine' v_truL ?k1 ?_); (case k1 => walk_at "vside"))
  | ((with_reducible refine' v_truT ?k1 ?_); (case k1 => walk_at "vside"))
  | ((with_reducible refine' v_maxD ?k1 ?_); (case k1 => walk_at "vside"))
  | ((with_reducible refine' v_minD ?k1 ?_); (case k1 => walk_at "vside"))
  | ((with_reducible refine' v_lenL ?k1 ?_); (case k1 => walk_at "vside"))
  | ((with_reducible refine' v_lenT ?k1 ?_); (case k1 => walk_at "vside"))
  | ((with_reducible refine' v_lenD ?k1 ?_); (case k1 => walk_at "vside"))
  | ((with_reducible refine' v_ixL ?k1 ?k2 ?_); (case k1 => walk_at "vside"); (case k2 => walk_at "vside"))
  | ((with_reducible refine' v_ixT ?k1 ?k2 ?_); (case k1 => walk_at "vside"); (case k2 => walk_at "vside"))
  | ((with_reducible refine' v_setL ?k1 ?k2 ?_); (case k1 => walk_at "vside"); (case k2 => walk_at "vside"))
  | ((with_reducible refine' v_isL ?k1 ?_); (case k1 => walk_at "vside"))
  | ((with_reducible refine' v_append ?k1 ?k2 ?_); (case k1 => walk_at "vside"); (case k2 => walk_at "vside"))
  | ((with_reducible refine' v_dputI ?k1 ?k2 ?_); (case k1 => walk_at "vside"); (case k2 => walk_at "vside"))
  | ((with_reducible refine' v_dgetI ?k1 ?k2 ?_); (case k1 => walk_at "vside"); (case k2 => walk_at "vside"))
  | ((with_reducible refine' v_dhasI ?k1 ?_); (case k1 => walk_at "vside"))
  | ((with_reducible refine' v_isqL ?k1 ?_); (case k1 => walk_at "vside"))
  | ((with_reducible refine' v_isqT ?k1 ?_); (case k1 => walk_at "vside"))
  | ((with_reducible refine' v_addS ?k1 ?_); (case k1 => walk_at "vside"))
  | ((with_reducible refine' v_lenSS ?k1 ?_); (case k1 => walk_at "vside"))
  | ((with_reducible refine' v_ixS ?k1 ?k2 ?_); (case k1 => walk_at "vside"); (case k2 => walk_at "vside"))
  | ((with_reducible refine' v_slS ?k1 ?_); (case k1 => walk_at "vside"))
  | ((with_reducible refine' v_idx ?k1 ?_); (case k1 => walk_at "vside"))
  | ((with_reducible refine' v_all ?k1 ?_); (case k1 => walk_at "vside"))
  | ((with_reducible refine' v_sum ?k1 ?_); (case k1 => walk_at "vside"))
  | ((with_reducible refine' v_rng1 ?k1 ?_); (case k1 => walk_at "vside"))
  | ((with_reducible refine' v_rng2 ?k1 ?_); (case k1 => walk_at "vside")))
local macro_rules | `(tactic| walk_at "vc") => `(tactic| repeat walk_at "v1")
local macro_rules | `(tactic| walk_at "vlen") => `(tactic| (intro vs H Q E h; (repeat' (obtain ⟨_, h⟩ := h)); all_goals (first | (subst_vars; rfl) | (simp_all))))
open K45
section
variable {P : Program} {w : World} {K : PySem.W.Frag} {mg : Str → Option Value} {base : Heap}
theorem cutV_mem {xs : List V} {lo hi : Option Int} {v : V} (h : v ∈ cutV xs lo hi) : v ∈ xs := List.mem_of_mem_drop (List.mem_of_mem_take h)
theorem PoolAt.tup {p a : Addr} {H H' : Hp} {xs : List V} (hp : PoolAt H p) (b : But p H H') (h : SqT K H a xs) : SqT K H' a xs := b.tup h fun u e => by
  obtain ⟨i, j, k, hp⟩ := hp
  rw [hp] at e
  cases e
  exact ⟨fun ⟨_, e⟩ => (by cases e), fun ⟨_, _, e⟩ => (by cases e)⟩
theorem PoolAt.elt {p : Addr} {H H' : Hp} {v : V} (hp : PoolAt H p) (b : But p H H') (h : Elt K H v) : Elt K H' v := by
  cases h with
  | str u z => exact .str u z
  | int i => exact .int i
  | tup a xs h => exact .tup a xs (hp.tup b h)
def spLawBent (K : PySem.W.Frag) : Sp := fun vs H Q _ => ∃ (p : Addr) (x : V), vs = [.ref p, x] ∧ PoolAt H p ∧
  ((∃ u : List Nat, x = .str (S u) ∧ u.length ≤ 20000 ∧ ∀ u' H', u'.length ≤ 2 * u.length + 1 → But p H H' → PoolAt H' p → Q (.str (S u')) H') ∨
   (∃ (a : Addr) (xs : List V), x = .ref a ∧ SqT K H a xs ∧ xs.length ≤ 20000 ∧ (∀ v ∈ xs, Elt K H v) ∧ ∀ b ys H', But p H H' → PoolAt H' p → SqT K H' b ys → ys.length ≤ 2 * xs.length + 1 → (∀ v ∈ ys, Elt K H' v) → Q (.ref b) H'))
abbrev sLawBent : Stmt := top 12
theorem sc__law_bent : FnScope ["pool", "part", "at", "other", "way", "turned", "sign"] ["pool", "part"] (defScope sLawBent) := ⟨rfl, rfl, rfl, by decide +kernel, rfl, by decide +kernel, by decide +kernel⟩
theorem ok__law_bent (T : Tx K mg) : Cal P w K mg base "_law_bent" 2 ["pool", "part"] (spLawBent K) := by
  have sc := sc__law_bent
  refine Cal.of T.d__law_bent sc (fun _ _ _ _ _ _ us hl => match us, hl with | [_, _], _ => rfl) (by walk_at "vlen") (fun f cdv A outer s H vs Q E hr h => ?_)
  obtain ⟨p, x, rfl, hp, hq⟩ := h
  refine ⟨_, (pss_cons
    (ps_if (pt_val (pe_callB (k_isi (K := K) rfl) rfl T.f_isinstance boot_isinstance (pa_cons (pv 1) (pa_cons (pe_bltn (v := .ty "tuple") (u := .type "tuple") rfl T.f_tuple (by decide +kernel) rfl) pa_nil)))) (pss_cons
      (ps_if (pt_cmpR op_eq (pe_callB (k_len (K := K) rfl) rfl T.f_len PySem.boot_len (pa_cons (pv 1) pa_nil)) pe_int (nomark _)) (pss_one
        (ps_ret (pe_tup (pa_cons pe_int pa_nil)))) pss_nil)
      (pss_cons
      (ps_set (i := 2) sc.nd rfl (Or.inl rfl) (pe_cal (ok__law_draw T) hr passL (pa_cons (pv 0) (pa_cons (pe_callB (k_len (K := K) rfl) rfl T.f_len PySem.boot_len (pa_cons (pv 1) pa_nil)) pa_nil))))
      (pss_cons
      (ps_set (i := 3) sc.nd rfl (Or.inl rfl) (pe_cal (ok__law_draw T) hr passL (pa_cons (pv 0) (pa_cons (pe_callB (k_len (K := K) rfl) rfl T.f_len PySem.boot_len (pa_cons (pv 1) pa_nil)) pa_nil))))
      (pss_cons
      (ps_set (i := 4) sc.nd rfl (Or.inl rfl) (pe_cal (ok__law_draw T) hr passL (pa_cons (pv 0) (pa_cons pe_int pa_nil))))
      (pss_cons
      (ps_if (pt_cmpR op_eq (pv 4) pe_int (nomark _)) (pss_one
        (ps_ret (pe_op (k_catT (K := K) rfl) (pe_slice (k_slT (K := K) rfl) (pv 1) po_none (po_some (pv 2))) (pe_slice (k_slT (K := K) rfl) (pv 1) (po_some (pe_op w_add (pv 2) pe_int)) po_none)))) pss_nil)
      (pss_cons
      (ps_if (pt_cmpR op_eq (pv 4) pe_int (nomark _)) (pss_one
        (ps_ret (pe_op (k_catT (K := K) rfl) (pe_slice (k_slT (K := K) rfl) (pv 1) po_none (po_some (pe_op w_add (pv 2) pe_int))) (pe_slice (k_slT (K := K) rfl) (pv 1) (po_some (pv 2)) po_none)))) pss_nil)
      (pss_cons
      (ps_if (pt_cmpR op_eq (pv 4) pe_int (nomark _)) (pss_cons
        (ps_set (i := 5) sc.nd rfl (Or.inl rfl) (pe_callTy (k_list (K := K) rfl) rfl T.f_list (by decide +kernel) (pa_cons (pv 1) pa_nil)))
        (pss_cons
        (ps_asg (pe_ix (k_ixT (K := K) rfl) (pv 1) (pv 3) (fun _ _ => rfl)) (pg_sub (pv 5) (pv 2) set_list))
        (pss_cons
        (ps_asg (pe_ix (k_ixT (K := K) rfl) (pv 1) (pv 2) (fun _ _ => rfl)) (pg_sub (pv 5) (pv 3) set_list))
        (pss_one
        (ps_ret (pe_callTy (k_tup (K := K) rfl) rfl T.f_tuple (by decide +kernel) (pa_cons (pv 5) pa_nil))))))) pss_nil)
      (pss_one
      (ps_ret (pe_op (k_catT (K := K) rfl) (pv 1) (pe_tup (pa_cons (pe_cal (ok__law_draw T) hr passL (pa_cons (pv 0) (pa_cons pe_int pa_nil))) pa_nil)))))))))))) pss_nil)
    (pss_cons
    (ps_if (pt_val (pe_callB (k_isi (K := K) rfl) rfl T.f_isinstance boot_isinstance (pa_cons (pv 1) (pa_cons (pe_bltn (v := .ty "str") (u := .type "str") rfl T.f_str (by decide +kernel) rfl) pa_nil)))) (pss_cons
      (ps_set (i := 2) sc.nd rfl (Or.inl rfl) (pe_cal (ok__law_draw T) hr passL (pa_cons (pv 0) (pa_cons (pe_op w_add (pe_callB w_lenS rfl T.f_len PySem.boot_len (pa_cons (pv 1) pa_nil)) pe_int) pa_nil))))
      (pss_cons
      (ps_set (i := 4) sc.nd rfl (Or.inl rfl) (pe_cal (ok__law_draw T) hr passL (pa_cons (pv 0) (pa_cons pe_int pa_nil))))
      (pss_cons
      (ps_if (pt_cmpR op_eq (pv 4) pe_int (nomark _)) (pss_one
        (ps_ret (pe_op w_addS (pe_slice sl_str (pv 1) po_none (po_some (pv 2))) (pe_slice sl_str (pv 1) (po_some (pe_op w_add (pv 2) pe_int)) po_none)))) pss_nil)
      (pss_cons
      (ps_set (i := 6) sc.nd rfl (Or.inl rfl) (pe_ix ix_str (pe_strS [65, 66, 67, 68, 97, 98, 99, 100, 48, 49, 50, 52, 57, 46, 43, 120] (by decide +kernel)) (pe_cal (ok__law_draw T) hr passL (pa_cons (pv 0) (pa_cons pe_int pa_nil))) (fun _ _ => rfl)))
      (pss_cons
      (ps_if (pt_cmpR op_eq (pv 4) pe_int (nomark _)) (pss_one
        (ps_ret (pe_op w_addS (pe_op w_addS (pe_slice sl_str (pv 1) po_none (po_some (pv 2))) (pv 6)) (pe_slice sl_str (pv 1) (po_some (pe_op w_add (pv 2) pe_int)) po_none)))) pss_nil)
      (pss_one
      (ps_ret (pe_op w_addS (pe_op w_addS (pe_slice sl_str (pv 1) po_none (po_some (pv 2))) (pv 6)) (pe_slice sl_str (pv 1) (po_some (pv 2)) po_none))))))))) pss_nil)
    (pss_one
    (ps_ret (pe_ix (k_ixL (K := K) rfl) (pe_lst (pa_cons (pe_op w_add (pv 1) pe_int) (pa_cons (pe_op w_sub (pv 1) pe_int) (pa_cons (pe_op w_add (pv 1) pe_int) (pa_cons pe_int pa_nil))))) (pe_cal (ok__law_draw T) hr passL (pa_cons (pv 0) (pa_cons pe_int pa_nil))) (fun _ _ => rfl)))))), ?_⟩
  have s0 : ∀ v0 v1 : V, start ["pool", "part", "at", "other", "way", "turned", "sign"] [v0, v1] = [some v0, some v1, none, none, none, none, none] := fun _ _ => rfl
  rw [s0]
  walk_at "vc"
  rcases hq with ⟨u, rfl, hu, q⟩ | ⟨a, xs, rfl, hS, hz, he, q⟩
  · walk_at "vc"
    refine v_draw hp (by omega) fun d H1 d0 d1 b1 p1 => ?_
    walk_at "vc"
    refine v_draw p1 (by omega) fun way H2 _ _ b2 p2 => ?_
    have c1 := cutL_len u none (some d)
    have c2 := cutL_len u (some (d + 1)) none
    have c3 := cutL_len u (some d) none
    walk_at "vc"
    refine v_decI (fun h => ?_) (fun h => ?_)
    · walk_at "vc"
      exact q _ _ (by rw [List.length_append]; omega) (b1.trans b2) p2
    walk_at "vc"
    refine v_draw p2 (by omega) fun e H3 e0 e1 b3 p3 => ?_
    obtain ⟨c, hc⟩ : ∃ c, atI ([65, 66, 67, 68, 97, 98, 99, 100, 48, 49, 50, 52, 57, 46, 43, 120] : List Nat) e = some c := by
      refine ⟨_, at_get e0 (List.getElem?_eq_getElem ?_)⟩
      show e.toNat < 16
      omega
    walk_at "vc"
    refine v_decI (fun h => ?_) (fun h => ?_)
    · walk_at "vc"
      exact q _ _ (by rw [List.length_append, List.length_append, List.length_singleton]; omega) ((b1.trans b2).trans b3) p3
    · walk_at "vc"
      exact q _ _ (by rw [List.length_append, List.length_append, List.length_singleton]; have := cutL_len u none (some d); unfold cutL at c1 c3 ⊢; rw [List.length_take, List.length_drop, List.length_take, List.length_drop] at *; omega) ((b1.trans b2).trans b3) p3
  · walk_at "vc"
    refine v_decI (fun h0 => ?_) (fun h0 => ?_)
    · walk_at "vc"
      refine ⟨Nat.le_of_ble_eq_true rfl, fun t ht => ?_⟩
      exact q t [.int 0] _ ((But.refl).new ht) (hp.set (hp.ne ht)) (SqT.of upd_same) (by simp) (fun v hv => by rw [List.mem_singleton.mp hv]; exact .int 0)
    walk_at "vc"
    refine v_draw hp (by omega) fun d H1 d0 d1 b1 p1 => ?_
    have hS1 := hp.tup b1 hS
    walk_at "vc"
    refine v_draw p1 (by omega) fun o H2 o0 o1 b2 p2 => ?_
    have hS2 := p1.tup b2 hS1
    walk_at "vc"
    refine v_draw p2 (by omega) fun way H3 _ _ b3 p3 => ?_
    have hS3 := p2.tup b3 hS2
    have b := (b1.trans b2).trans b3
    have he3 : ∀ v ∈ xs, Elt K H3 v := fun v hv => hp.elt b (he v hv)
    have c1 := cutV_length xs none (some d)
    have c2 := cutV_length xs (some (d + 1)) none
    have c3 := cutV_length xs (some d) none
    have c4 := cutV_length xs none (some (d + 1))
    walk_at "vc"
    refine v_decI (fun h => ?_) (fun h => ?_)
    · walk_at "vc"
      refine v_slA hS3 fun t1 H4 s4 g4 => ?_
      walk_at "vc"
      refine v_slA (s4.vtup hS3) fun t2 H5 s5 g5 => ?_
      refine v_catA (s5.vtup g4) g5 (by rw [sizeLine_eq]; omega) fun t3 H6 s6 g6 => ?_
      have s := (s4.trans s5).trans s6
      refine q t3 _ H6 (b.same s) (p3.same s) g6 (by rw [List.length_append]; omega) fun v hv => (he3 v ?_).same s
      rcases List.mem_append.mp hv with hv | hv <;> exact cutV_mem hv
    walk_at "vc"
    refine v_decI (fun h => ?_) (fun h => ?_)
    · walk_at "vc"
      refine v_slA hS3 fun t1 H4 s4 g4 => ?_
      walk_at "vc"
      refine v_slA (s4.vtup hS3) fun t2 H5 s5 g5 => ?_
      refine v_catA (s5.vtup g4) g5 (by rw [sizeLine_eq]; omega) fun t3 H6 s6 g6 => ?_
      have s := (s4.trans s5).trans s6
      refine q t3 _ H6 (b.same s) (p3.same s) g6 (by rw [List.length_append]; omega) fun v hv => (he3 v ?_).same s
      rcases List.mem_append.mp hv with hv | hv <;> exact cutV_mem hv
    have nd : d.toNat < xs.length := by omega
    have no : o.toNat < xs.length := by omega
    obtain ⟨vd, hvd⟩ : ∃ v, xs[d.toNat]? = some v := ⟨_, List.getElem?_eq_getElem nd⟩
    obtain ⟨vo, hvo⟩ : ∃ v, xs[o.toNat]? = some v := ⟨_, List.getElem?_eq_getElem no⟩
    walk_at "vc"
    refine v_decI (fun h => ?_) (fun h => ?_)
    · walk_at "vc"
      refine v_listT hS3 fun l hl => ?_
      have s4 : Same H3 (upd H3 l (.lst xs)) := (Same.refl H3).vnew hl
      have eo := at_get (xs := xs) o0 hvo
      have ed := at_get (xs := xs) d0 hvd
      have hS4 := s4.vtup hS3
      have i1 := ixN_ok (n := xs.length) d0 (by omega)
      walk_at "vc"
      rw [upd_upd]
      have s5 : Same H3 (upd H3 l (.lst (xs.set d.toNat vo))) := (Same.refl H3).vnew hl
      have hS5 := s5.vtup hS3
      have i2 := ixN_ok (n := (xs.set d.toNat vo).length) (i := o) o0 (by rw [List.length_set]; omega)
      walk_at "vc"
      rw [upd_upd]
      walk_at "vc"
      refine v_tupL (SqL.of upd_same) fun t ht => ?_
      have s6 : Same H3 (upd (upd H3 l (.lst ((xs.set d.toNat vo).set o.toNat vd))) t (.tup ((xs.set d.toNat vo).set o.toNat vd))) := ((Same.refl H3).vnew hl).vnew ht
      refine q t _ _ (b.same s6) (p3.same s6) (SqT.of upd_same) (by rw [List.length_set, List.length_set]; omega) fun v hv => (he3 v ?_).same s6
      rcases List.mem_or_eq_of_mem_set hv with hv | rfl
      · rcases List.mem_or_eq_of_mem_set hv with hv | rfl
        · exact hv
        · exact List.mem_of_getElem? hvo
      · exact List.mem_of_getElem? hvd
    · walk_at "vc"
      refine v_draw p3 (by omega) fun e H4 e0 e1 b4 p4 => ?_
      have hS4 := p3.tup b4 hS3
      walk_at "vc"
      refine ⟨Nat.le_of_ble_eq_true rfl, fun t ht => ?_⟩
      have s5 : Same H4 (upd H4 t (.tup [.int e])) := (Same.refl H4).vnew ht
      refine v_catA (s5.vtup hS4) (SqT.of upd_same) (by rw [sizeLine_eq]; simp; omega) fun t3 H6 s6 g6 => ?_
      have s := s5.trans s6
      refine q t3 _ H6 ((b.trans b4).same s) (p4.same s) g6 (by rw [List.length_append, List.length_singleton]; omega) fun v hv => ?_
      rcases List.mem_append.mp hv with hv | hv
      · exact (p3.elt b4 (he3 v hv)).same s
      · rw [List.mem_singleton.mp hv]
        exact .int e
end
end RC
namespace RC
open PySem PySem.Spec PyProof.Rows L2
local macro_rules | `(tactic| walk_at "vside") => `(tactic| first | assumption | exact rfl | omega | exact Nat.le_of_ble_eq_true rfl | exact SqL.of (by assumption) | exact SqT.of (by assumption) | exact SqL.of upd_same | exact SqT.of upd_same | exact upd_same | exact Rd.of (by assumption) | exact Rd.of upd_same | (rw [sizeLine_eq]; omega) | (simp only [List.length_append, List.length_cons, List.length_nil, List.length_map, sizeLine_eq]; omega))
local macro_rules | `(tactic| walk_at "v1") => `(tactic| first
  | (with_reducible first
    | refine v_seq ?_ | refine v_asg ?_ | refine v_ret ?_ | refine v_retN ?_ | refine v_next ?_ | refine v_drop ?_ | refine v_if ?_ | refine v_test ?_ | refine v_tB ?_ | refine v_bl ?_ | refine v_not ?_ | refine v_and ?_ | refine v_or ?_
    | refine v_andV ?_ | refine v_orV ?_ | refine v_notV ?_ | refine v_ifE ?_ | refine v_C ?_ | refine v_op ?_ | refine v_un ?_ | refine v_CB ?_ | refine v_CKw ?_ | refine v_nil ?_ | refine v_cons ?_ | refine v_call ?_ | refine v_tup ?_ | refine v_lst ?_
    | refine v_revT ?_ | refine v_sl ?_ | refine v_noPart ?_ | refine v_part ?_ | refine v_partI ?_ | refine v_add ?_ | refine v_sub ?_ | refine v_lt ?_ | refine v_le ?_ | refine v_gt ?_ | refine v_ge ?_ | refine v_neg ?_ | refine v_abs ?_ | refine v_int ?_
    | refine v_min2 ?_ | refine v_max2 ?_ | refine v_gSub ?_ | refine v_BM ?_ | refine v_BM0 ?_ | refine v_dput ?_ | refine v_dget ?_ | refine v_dnotin ?_ | refine v_din ?_ | refine v_for ?_ | refine v_iRng1 ?_ | refine v_iRng2 ?_ | refine v_iList ?_ | refine v_iTup ?_ | refine v_lc ?_ | refine v_yes ?_ | refine v_chain ?_ | refine v_M1 ?_ | refine v_M0 ?_ | refine v_isStr ?_ | refine v_start ?_ | refine v_leS ?_ | refine v_inS ?_ | refine v_iStr ?_ | refine v_isS ?_ | refine v_intB' ?_ | refine v_tru ?_ | refine v_iteT ?_ | refine v_iteF ?_ | refine v_iteNT ?_ | refine v_iteNF ?_ | refine v_iKeys ?_)
  | ((with_reducible refine' v_var ?k1 ?_); (case k1 => exact rfl))
  | ((with_reducible refine' v_gName ?k1 ?_); (case k1 => (dsimp only [List.set, L2.wipe, List.map]; try exact rfl)))
  | ((with_reducible refine' v_mul ?k1 ?_); (case k1 => walk_at "vside"))
  | ((with_reducible refine' v_div ?k1 ?_); (case k1 => walk_at "vside"))
  | ((with_reducible refine' v_mod ?k1 ?_); (case k1 => walk_at "vside"))
  | ((with_reducible refine' v_eq ?k1 ?_); (case k1 => exact rfl))
  | ((with_reducible refine' v_ne ?k1 ?_); (case k1 => exact rfl))
  | ((with_reducible refine' v_isi ?k1 ?k2 ?_); (case k1 => first | exact tyX_tup (by assumption) | exact .base (.int _) | exact .base (.bl _) | exact .base (.str _) | exact .base .non | exact .base (.lst (by assumption)) | exact .base (.tup (by assumption)) | exact .base (.dK (by assumption))); (case k2 => first | exact kit_int_int | exact kit_int_bool | exact kit_int_str | exact kit_int_tuple | exact kit_int_list | exact kit_int_dict | exact kit_bool_int | exact kit_bool_bool | exact kit_bool_str | exact kit_bool_tuple | exact kit_bool_list | exact kit_bool_dict | exact kit_str_int | exact kit_str_bool | exact kit_str_str | exact kit_str_tuple | exact kit_str_list | exact kit_str_dict | exact kit_tuple_int | exact kit_tuple_bool | exact kit_tuple_str | exact kit_tuple_tuple | exact kit_tuple_list | exact kit_tuple_dict | exact kit_list_int | exact kit_list_bool | exact kit_list_str | exact kit_list_tuple | exact kit_list_list | exact kit_list_dict | exact kit_dict_int | exact kit_dict_bool | exact kit_dict_str | exact kit_dict_tuple | exact kit_dict_list | exact kit_dict_dict | exact kit_NoneType_int | exact kit_NoneType_bool | exact kit_NoneType_str | exact kit_NoneType_tuple | exact kit_NoneType_list | exact kit_NoneType_dict))
  | ((with_reducible refine' v_truL ?k1 ?_); (case k1 => walk_at "vside"))
  | ((with_reducible refine' v_truT ?k1 ?_); (case k1 => walk_at "vside"))
  | ((with_reducible refine' v_maxD ?k1 ?_); (case k1 => walk_at "vside"))
  | ((with_reducible refine' v_minD ?k1 ?_); (case k1 => walk_at "vside"))
  | ((with_reducible refine' v_lenL ?k1 ?_); (case k1 => walk_at "vside"))
  | ((with_reducible refine' v_lenT ?k1 ?_); (case k1 => walk_at "vside"))
  | ((with_reducible refine' v_lenD ?k1 ?_); (case k1 => walk_at "vside"))
  | ((with_reducible refine' v_ixL ?k1 ?k2 ?_); (case k1 => walk_at "vside"); (case k2 => walk_at "vside"))
  | ((with_reducible refine' v_ixT ?k1 ?k2 ?_); (case k1 => walk_at "vside"); (case k2 => walk_at "vside"))
  | ((with_reducible refine' v_setL ?k1 ?k2 ?_); (case k1 => walk_at "vside"); (case k2 => walk_at "vside"))
  | ((with_reducible refine' v_isL ?k1 ?_); (case k1 => walk_at "vside"))
  | ((with_reducible refine' v_append ?k1 ?k2 ?_); (case k1 => walk_at "vside"); (case k2 => walk_at "vside"))
  | ((with_reducible refine' v_dputI ?k1 ?k2 ?_); (case k1 => walk_at "vside"); (case k2 => walk_at "vside"))
  | ((with_reducible refine' v_dgetI ?k1 ?k2 ?_); (case k1 => walk_at "vside"); (case k2 => walk_at "vside"))
  | ((with_reducible refine' v_dhasI ?k1 ?_); (case k1 => walk_at "vside"))
  | ((with_reducible refine' v_isqL ?k1 ?_); (case k1 => walk_at "vside"))
  | ((with_reducible refine' v_isqT ?k1 ?_); (case k1 => walk_at "vside"))
  | ((with_reducible refine' v_addS ?k1 ?_); (case k1 => walk_at "vside"))
  | ((with_reducible refine' v_lenSS ?k1 ?_); (case k1 => walk_at "vside"))
  | ((with_reducible refine' v_ixS ?k1 ?k2 ?_); (case k1 => walk_at "vside"); (case k2 => walk_at "vside"))
  | ((with_reducible refine' v_slS ?k1 ?_); (case k1 => walk_at "vside"))
  | ((with_reducible refine' v_idx ?k1 ?_); (case k1 => walk_at "vside"))
  | ((with_reducible refine' v_all ?k1 ?_); (case k1 => walk_at "vside"))
  | ((with_reducible refine' v_sum ?k1 ?_); (case k1 => walk_at "vside"))
  | ((with_reducible refine' v_rng1 ?k1 ?_); (case k1 => walk_at "vside"))
  | ((with_reducible refine' v_rng2 ?k1 ?_); (case k1 => walk_at "vside")))
local macro_rules | `(tactic| walk_at "vc") => `(tactic| repeat walk_at "v1")
local macro_rules | `(tactic| walk_at "vlen") => `(tactic| (intro vs H Q E h; (repeat' (obtain ⟨_, h⟩ := h)); all_goals (first | (subst_vars; rfl) | (simp_all))))
open K45
section
variable {P : Program} {w : World} {K : PySem.W.Frag} {mg : Str → Option Value} {base : Heap}
/-- what comes of a bent list -/
def Bt (K : PySem.W.Frag) (p : Addr) (H : Hp) (Q : VK) : Prop := ∀ t ys H', But p H H' → PoolAt H' p → SqT K H' t ys → ys.length ≤ 100000 → (∀ v ∈ ys, Elt K H' v) → Q (.ref t) H'
def spLawSpoil (K : PySem.W.Frag) : Sp := fun vs H Q _ => ∃ (p a : Addr) (ws : List (List Nat)), vs = [.ref p, .ref a] ∧ PoolAt H p ∧ SqT K H a (ws.map strV) ∧ ws.length ≤ 10000 ∧ (∀ u ∈ ws, u.length ≤ 10000) ∧ Bt K p H Q
theorem elt_strs {K : PySem.W.Frag} {H : Hp} {ws : List (List Nat)} (h : ∀ u ∈ ws, u.length ≤ 100000) : ∀ v ∈ ws.map strV, Elt K H v := fun v hv => by
  obtain ⟨u, hu, rfl⟩ := List.mem_map.mp hv
  exact .str u (h u hu)
abbrev sLawSpoil : Stmt := top 13
theorem sc__law_spoil : FnScope ["pool", "value", "path", "part", "going", "depth", "new", "k", "above", "step", "at"] ["pool", "value"] (defScope sLawSpoil) := ⟨rfl, rfl, rfl, by decide +kernel, rfl, by decide +kernel, by decide +kernel⟩
theorem ok__law_spoil (T : Tx K mg) : Cal P w K mg base "_law_spoil" 3 ["pool", "value"] (spLawSpoil K) := by
  have sc := sc__law_spoil
  refine Cal.of T.d__law_spoil sc (fun _ _ _ _ _ _ us hl => match us, hl with | [_, _], _ => rfl) (by walk_at "vlen") (fun f cdv A outer s H vs Q E hr h => ?_)
  obtain ⟨p, a, ws, rfl, hp, hS, hw, hu, q⟩ := h
  refine ⟨_, (pss_cons
    (ps_set (i := 2) sc.nd rfl (Or.inl rfl) (pe_lst pa_nil))
    (pss_cons
    (ps_set (i := 3) sc.nd rfl (Or.inl rfl) (pv 1))
    (pss_cons
    (ps_set (i := 4) sc.nd rfl (Or.inl rfl) pe_bl)
    (pss_cons
    (ps_for (passes_of rfl) rfl (pi_range1 rfl T.f_range (pa_cons pe_int pa_nil)) (pg_name (i := 5) sc.nd rfl (Or.inl rfl)) (pss_one
      (ps_if (PW.pt (pw_and (pt_val (pv 4)) (pw_and (pt_val (pe_callB (k_isi (K := K) rfl) rfl T.f_isinstance boot_isinstance (pa_cons (pv 3) (pa_cons (pe_bltn (v := .ty "tuple") (u := .type "tuple") rfl T.f_tuple (by decide +kernel) rfl) pa_nil)))) (pw_and (pt_cmpR w_gt (pe_callB (k_len (K := K) rfl) rfl T.f_len PySem.boot_len (pa_cons (pv 3) pa_nil)) pe_int (nomark _)) (pw_and1 (pt_cmpR w_gt (pe_cal (ok__law_draw T) hr passL (pa_cons (pv 0) (pa_cons pe_int pa_nil))) pe_int (nomark _))))))) (pss_cons
        (ps_expr (pe_bm PySem.F.plainAttrs_list PySem.F.slot_list_append PySem.F.type_list_append mt_append (pv 2) (pa_cons (pe_cal (ok__law_draw T) hr passL (pa_cons (pv 0) (pa_cons (pe_callB (k_len (K := K) rfl) rfl T.f_len PySem.boot_len (pa_cons (pv 3) pa_nil)) pa_nil))) pa_nil)))
        (pss_one
        (ps_set (i := 3) sc.nd rfl (Or.inl rfl) (pe_ix (k_ixT (K := K) rfl) (pv 3) (pe_ix (k_ixL (K := K) rfl) (pv 2) (pe_un w_neg pe_int) (fun _ _ => rfl)) (fun _ _ => rfl))))) (pss_one
        (ps_set (i := 4) sc.nd rfl (Or.inl rfl) pe_bl)))))
    (pss_cons
    (ps_set (i := 6) sc.nd rfl (Or.inl rfl) (pe_cal (ok__law_bent T) hr passL (pa_cons (pv 0) (pa_cons (pv 3) pa_nil))))
    (pss_cons
    (ps_for (passes_of rfl) rfl (pi_range1 rfl T.f_range (pa_cons (pe_callB (k_len (K := K) rfl) rfl T.f_len PySem.boot_len (pa_cons (pv 2) pa_nil)) pa_nil)) (pg_name (i := 7) sc.nd rfl (Or.inl rfl)) (pss_cons
      (ps_set (i := 8) sc.nd rfl (Or.inl rfl) (pv 1))
      (pss_cons
      (ps_for (passes_of rfl) rfl (k_iL (K := K) rfl (pe_slice (k_slL (K := K) rfl) (pv 2) po_none (po_some (pe_op w_sub (pe_op w_sub (pe_callB (k_len (K := K) rfl) rfl T.f_len PySem.boot_len (pa_cons (pv 2) pa_nil)) pe_int) (pv 7))))) (pg_name (i := 9) sc.nd rfl (Or.inl rfl)) (pss_one
        (ps_set (i := 8) sc.nd rfl (Or.inl rfl) (pe_ix (k_ixT (K := K) rfl) (pv 8) (pv 9) (fun _ _ => rfl)))))
      (pss_cons
      (ps_set (i := 10) sc.nd rfl (Or.inl rfl) (pe_ix (k_ixL (K := K) rfl) (pv 2) (pe_op w_sub (pe_op w_sub (pe_callB (k_len (K := K) rfl) rfl T.f_len PySem.boot_len (pa_cons (pv 2) pa_nil)) pe_int) (pv 7)) (fun _ _ => rfl)))
      (pss_one
      (ps_set (i := 6) sc.nd rfl (Or.inl rfl) (pe_op (k_catT (K := K) rfl) (pe_op (k_catT (K := K) rfl) (pe_slice (k_slT (K := K) rfl) (pv 8) po_none (po_some (pv 10))) (pe_tup (pa_cons (pv 6) pa_nil))) (pe_slice (k_slT (K := K) rfl) (pv 8) (po_some (pe_op w_add (pv 10) pe_int)) po_none))))))))
    (pss_one
    (ps_ret (pv 6))))))))), ?_⟩
  have s0 : ∀ v0 v1 : V, start ["pool", "value", "path", "part", "going", "depth", "new", "k", "above", "step", "at"] [v0, v1] = [some v0, some v1, none, none, none, none, none, none, none, none, none] := fun _ _ => rfl
  rw [s0]
  walk_at "vc"
  refine ⟨Nat.zero_le _, fun l hl => ?_⟩
  have nl := hp.ne hl
  have b0 : But p H (upd H l (.lst [])) := (But.refl).new hl
  have p0 : PoolAt (upd H l (.lst [])) p := hp.set nl
  walk_at "vc"
  refine loop_range (fun i σ H' => But p H H' ∧ PoolAt H' p ∧ ∃ (g : Bool) (v5 : Option V) (part : V) (path : List V), σ = [some (.ref p), some (.ref a), some (.ref l), some part, some (.bl g), v5, none, none, none, none, none] ∧ H' l = some (.lst path) ∧
      ((path = [] ∧ part = .ref a) ∨ ∃ (k : Nat) (u : List Nat), path = [.int k] ∧ part = .str (S u) ∧ ws[k]? = some u))
    ⟨b0, p0, true, none, .ref a, [], rfl, upd_same, .inl ⟨rfl, rfl⟩⟩ ?_ ?_
  · rintro i σ H1 hi ⟨b1, p1, g, v5, part, path, rfl, h1, hc⟩
    walk_at "vc"
    cases g with
    | false =>
      walk_at "vc"
      exact ⟨b1, p1, false, _, part, path, rfl, h1, hc⟩
    | true =>
      rcases hc with ⟨rfl, rfl⟩ | ⟨k, u, rfl, rfl, hk⟩
      · have hS1 := hp.tup b1 hS
        walk_at "vc"
        rw [List.length_map]
        refine v_dec (fun h => ?_) (fun h => ?_)
        · walk_at "vc"
          refine v_draw p1 (by omega) fun d H2 d0 d1 b2 p2 => ?_
          have h2 := b2 l _ nl h1
          have hS2 := p1.tup b2 hS1
          walk_at "vc"
          refine v_dec (fun h => ?_) (fun h => ?_)
          · walk_at "vc"
            rw [List.length_map]
            refine v_draw p2 (by omega) fun e H3 e0 e1 b3 p3 => ?_
            have h3 := b3 l _ nl h2
            have hS3 := p2.tup b3 hS2
            obtain ⟨u, hk⟩ : ∃ u, ws[e.toNat]? = some u := ⟨_, List.getElem?_eq_getElem (by omega)⟩
            walk_at "vc"
            have hl' : ∀ ys, H3 l ≠ some (.tup ys) := fun ys e => by rw [h3] at e; cases e
            have hS4 : SqT K (upd H3 l (.lst ([] ++ [V.int e]))) a (ws.map strV) := by
              have : But l H3 (upd H3 l (.lst ([] ++ [V.int e]))) := But.write
              refine this.tup hS3 fun u eu => ?_
              rw [h3] at eu
              cases eu
              exact ⟨fun ⟨_, e⟩ => (by cases e), fun ⟨_, _, e⟩ => (by cases e)⟩
            have ea : atI (([] : List V) ++ [V.int e]) (-1) = some (V.int e) := at_last
            have eb : atI (ws.map strV) e = some (.str (S u)) := at_tupS e0 hk
            walk_at "vc"
            exact ⟨((b1.trans b2).trans b3).fresh hl, p3.set nl, true, _, _, [.int (e.toNat : Nat)], rfl, by rw [upd_same, Int.toNat_of_nonneg e0]; rfl, .inr ⟨e.toNat, u, rfl, rfl, hk⟩⟩
          · walk_at "vc"
            exact ⟨b1.trans b2, p2, false, _, _, [], rfl, h2, .inl ⟨rfl, rfl⟩⟩
        · walk_at "vc"
          exact ⟨b1, p1, false, _, _, [], rfl, h1, .inl ⟨rfl, rfl⟩⟩
      · walk_at "vc"
        exact ⟨b1, p1, false, _, _, _, rfl, h1, .inr ⟨k, u, rfl, rfl, hk⟩⟩
  · rintro σ H1 ⟨b1, p1, g, v5, part, path, rfl, h1, hc⟩
    have hS1 := hp.tup b1 hS
    have he1 : ∀ v ∈ ws.map strV, Elt K H1 v := elt_strs fun u h => by have := hu u h; omega
    walk_at "vc"
    rcases hc with ⟨rfl, rfl⟩ | ⟨k, u, rfl, rfl, hk⟩
    · refine ⟨p, .ref a, rfl, p1, .inr ⟨a, _, rfl, hS1, by rw [List.length_map]; omega, he1, fun b ys H2 b2 p2 g2 z2 e2 => ?_⟩⟩
      have h2 := b2 l _ nl h1
      walk_at "vc"
      refine loop_range (fun i σ H' => H2 = H' ∧ σ = [some (.ref p), some (.ref a), some (.ref l), some (.ref a), some (.bl g), v5, some (.ref b), none, none, none, none]) ⟨rfl, rfl⟩ (fun i σ H' hi => absurd hi (Nat.not_lt_zero _)) ?_
      rintro σ H' ⟨rfl, rfl⟩
      walk_at "vc"
      rw [List.length_map] at z2
      exact q b ys H2 (b1.trans b2) p2 g2 (by omega) e2
    · have hku := hu u (List.mem_of_getElem? hk)
      have kl := (List.getElem?_eq_some_iff.mp hk).1
      refine ⟨p, .str (S u), rfl, p1, .inl ⟨u, rfl, by omega, fun u' H2 z2 b2 p2 => ?_⟩⟩
      have h2 := b2 l _ nl h1
      have hS2 := p1.tup b2 hS1
      have he2 : ∀ v ∈ ws.map strV, Elt K H2 v := elt_strs fun u h => by have := hu u h; omega
      walk_at "vc"
      refine loop_range (fun i σ H' => (i = 0 ∧ H2 = H' ∧ σ = [some (.ref p), some (.ref a), some (.ref l), some (.str (S u)), some (.bl g), v5, some (.str (S u')), none, none, none, none]) ∨
          ∃ (t : Addr) (ys : List V) (v7 v8 v9 v10 : Option V), Same H2 H' ∧ SqT K H' t ys ∧ ys.length ≤ 100000 ∧ (∀ v ∈ ys, Elt K H' v) ∧ i = 1 ∧ σ = [some (.ref p), some (.ref a), some (.ref l), some (.str (S u)), some (.bl g), v5, some (.ref t), v7, v8, v9, v10]) (.inl ⟨rfl, rfl, rfl⟩) ?_ ?_
      · rintro i σ H' hi (⟨rfl, rfl, rfl⟩ | ⟨t, ys, v7, v8, v9, v10, _, _, _, _, rfl, _⟩)
        rotate_left
        · exact absurd hi (show ¬ 1 < 1 from Nat.lt_irrefl 1)
        walk_at "vc"
        refine v_slL (SqL.of h2) fun l2 hl2 => ?_
        have s3 : Same H2 (upd H2 l2 (.lst (cutV [V.int (k : Int)] none (some (([V.int (k : Int)].length : Int) - 1 - (0 + ((0 : Nat) : Int))))))) := (Same.refl H2).vnew hl2
        have g3 : (upd H2 l2 (.lst (cutV [V.int (k : Int)] none (some (([V.int (k : Int)].length : Int) - 1 - (0 + ((0 : Nat) : Int))))))) l2 = some (.lst []) := upd_same
        generalize upd H2 l2 (.lst (cutV [V.int (k : Int)] none (some (([V.int (k : Int)].length : Int) - 1 - (0 + ((0 : Nat) : Int)))))) = H3 at s3 g3
        have h3 := s3 _ _ h2
        have hS3 := s3.vtup hS2
        walk_at "vc"
        refine loop_list (xs := []) (fun i σ H' => H3 = H' ∧ σ = [some (.ref p), some (.ref a), some (.ref l), some (.str (S u)), some (.bl g), v5, some (.str (S u')), some (.int (0 + ((0 : Nat) : Int))), some (.ref a), none, none]) ⟨rfl, rfl⟩ (fun i σ H' _ ⟨e, _⟩ => by subst e; exact SqL.of g3) (fun i x σ H' h => by simp at h) ?_
        rintro σ H' ⟨rfl, rfl⟩
        have ek : atI [V.int (k : Int)] (([V.int (k : Int)].length : Int) - 1 - (0 + ((0 : Nat) : Int))) = some (.int k) := rfl
        walk_at "vc"
        refine v_slA hS3 fun t1 H4 s4 g4 => ?_
        walk_at "vc"
        refine ⟨Nat.le_of_ble_eq_true rfl, fun t2 f2 => ?_⟩
        have s5 : Same H4 (upd H4 t2 (.tup [.str (S u')])) := (Same.refl H4).vnew f2
        have c1 := cutV_length (ws.map strV) none (some (k : Int))
        have c2 := cutV_length (ws.map strV) (some ((k : Int) + 1)) none
        rw [List.length_map] at c1 c2
        refine v_catA (s5.vtup g4) (SqT.of upd_same) (by rw [sizeLine_eq]; simp; omega) fun t3 H6 s6 g6 => ?_
        have s36 := (s4.trans s5).trans s6
        walk_at "vc"
        refine v_slA (s36.vtup hS3) fun t4 H7 s7 g7 => ?_
        refine v_catA (s7.vtup g6) g7 (by rw [sizeLine_eq, List.length_append, List.length_singleton]; omega) fun t5 H8 s8 g8 => ?_
        have s38 := (s36.trans s7).trans s8
        walk_at "vc"
        refine .inr ⟨t5, _, _, _, _, _, s3.trans s38, g8, by rw [List.length_append, List.length_append, List.length_singleton]; omega, fun v hv => ?_, rfl, rfl⟩
        rcases List.mem_append.mp hv with hv | hv
        · rcases List.mem_append.mp hv with hv | hv
          · exact (he2 v (cutV_mem hv)).same (s3.trans s38)
          · rw [List.mem_singleton.mp hv]
            exact .str u' (by omega)
        · exact (he2 v (cutV_mem hv)).same (s3.trans s38)
      · rintro σ H' (⟨h, _⟩ | ⟨t, ys, v7, v8, v9, v10, s, g3, z3, e3, _, rfl⟩)
        · cases h
        walk_at "vc"
        exact q t ys H' ((b1.trans b2).same s) (p2.same s) g3 z3 e3
end
end RC
namespace RC
open PySem PySem.Spec PyProof.Rows L2
local macro_rules | `(tactic| walk_at "vside") => `(tactic| first | assumption | exact rfl | omega | exact Nat.le_of_ble_eq_true rfl | exact SqL.of (by assumption) | exact SqT.of (by assumption) | exact SqL.of upd_same | exact SqT.of upd_same | exact upd_same | exact Rd.of (by assumption) | exact Rd.of upd_same | (rw [sizeLine_eq]; omega) | (simp only [List.length_append, List.length_cons, List.length_nil, List.length_map, sizeLine_eq]; omega))
local macro_rules | `(tactic| walk_at "v1") => `(tactic| first
  | (with_reducible first
    | refine v_seq ?_ | refine v_asg ?_ | refine v_ret ?_ | refine v_retN ?_ | refine v_next ?_ | refine v_drop ?_ | refine v_if ?_ | refine v_test ?_ | refine v_tB ?_ | refine v_bl ?_ | refine v_not ?_ | refine v_and ?_ | refine v_or ?_
    | refine v_andV ?_ | refine v_orV ?_ | refine v_notV ?_ | refine v_ifE ?_ | refine v_C ?_ | refine v_op ?_ | refine v_un ?_ | refine v_CB ?_ | refine v_CKw ?_ | refine v_nil ?_ | refine v_cons ?_ | refine v_call ?_ | refine v_tup ?_ | refine v_lst ?_
    | refine v_revT ?_ | refine v_sl ?_ | refine v_noPart ?_ | refine v_part ?_ | refine v_partI ?_ | refine v_add ?_ | refine v_sub ?_ | refine v_lt ?_ | refine v_le ?_ | refine v_gt ?_ | refine v_ge ?_ | refine v_neg ?_ | refine v_abs ?_ | refine v_int ?_
    | refine v_min2 ?_ | refine v_max2 ?_ | refine v_gSub ?_ | refine v_BM ?_ | refine v_BM0 ?_ | refine v_dput ?_ | refine v_dget ?_ | refine v_dnotin ?_ | refine v_din ?_ | refine v_for ?_ | refine v_iRng1 ?_ | refine v_iRng2 ?_ | refine v_iList ?_ | refine v_iTup ?_ | refine v_lc ?_ | refine v_yes ?_ | refine v_chain ?_ | refine v_M1 ?_ | refine v_M0 ?_ | refine v_isStr ?_ | refine v_start ?_ | refine v_leS ?_ | refine v_inS ?_ | refine v_iStr ?_ | refine v_isS ?_ | refine v_intB' ?_ | refine v_tru ?_ | refine v_iteT ?_ | refine v_iteF ?_ | refine v_iteNT ?_ | refine v_iteNF ?_ | refine v_iKeys ?_)
  | ((with_reducible refine' v_var ?k1 ?_); (case k1 => exact rfl))
  | ((with_reducible refine' v_gName ?k1 ?_); (case k1 => (dsimp only [List.set, L2.wipe, List.map]; try exact rfl)))
  | ((with_reducible refine' v_mul ?k1 ?_); (case k1 => walk_at "vside"))
  | ((with_reducible refine' v_div ?k1 ?_); (case k1 => walk_at "vside"))
  | ((with_reducible refine' v_mod ?k1 ?_); (case k1 => walk_at "vside"))
  | ((with_reducible refine' v_eq ?k1 ?_); (case k1 => exact rfl))
  | ((with_reducible refine' v_ne ?k1 ?_); (case k1 => exact rfl))
  | ((with_reducible refine' v_isi ?k1 ?k2 ?_); (case k1 => first | exact tyX_tup (by assumption) | exact .base (.int _) | exact .base (.bl _) | exact .base (.str _) | exact .base .non | exact .base (.lst (by assumption)) | exact .base (.tup (by assumption)) | exact .base (.dK (by assumption))); (case k2 => first | exact kit_int_int | exact kit_int_bool | exact kit_int_str | exact kit_int_tuple | exact kit_int_list | exact kit_int_dict | exact kit_bool_int | exact kit_bool_bool | exact kit_bool_str | exact kit_bool_tuple | exact kit_bool_list | exact kit_bool_dict | exact kit_str_int | exact kit_str_bool | exact kit_str_str | exact kit_str_tuple | exact kit_str_list | exact kit_str_dict | exact kit_tuple_int | exact kit_tuple_bool | exact kit_tuple_str | exact kit_tuple_tuple | exact kit_tuple_list | exact kit_tuple_dict | exact kit_list_int | exact kit_list_bool | exact kit_list_str | exact kit_list_tuple | exact kit_list_list | exact kit_list_dict | exact kit_dict_int | exact kit_dict_bool | exact kit_dict_str | exact kit_dict_tuple | exact kit_dict_list | exact kit_dict_dict | exact kit_NoneType_int | exact kit_NoneType_bool | exact kit_NoneType_str | exact kit_NoneType_tuple | exact kit_NoneType_list | exact kit_NoneType_dict))
  | ((with_reducible refine' v_truL ?k1 ?_); (case k1 => walk_at "vside"))
  | ((with_reducible refine' v_truT ?k1 ?_); (case k1 => walk_at "vside"))
  | ((with_reducible refine' v_maxD ?k1 ?_); (case k1 => walk_at "vside"))
  | ((with_reducible refine' v_minD ?k1 ?_); (case k1 => walk_at "vside"))
  | ((with_reducible refine' v_lenL ?k1 ?_); (case k1 => walk_at "vside"))
  | ((with_reducible refine' v_lenT ?k1 ?_); (case k1 => walk_at "vside"))
  | ((with_reducible refine' v_lenD ?k1 ?_); (case k1 => walk_at "vside"))
  | ((with_reducible refine' v_ixL ?k1 ?k2 ?_); (case k1 => walk_at "vside"); (case k2 => walk_at "vside"))
  | ((with_reducible refine' v_ixT ?k1 ?k2 ?_); (case k1 => walk_at "vside"); (case k2 => walk_at "vside"))
  | ((with_reducible refine' v_setL ?k1 ?k2 ?_); (case k1 => walk_at "vside"); (case k2 => walk_at "vside"))
  | ((with_reducible refine' v_isL ?k1 ?_); (case k1 => walk_at "vside"))
  | ((with_reducible refine' v_append ?k1 ?k2 ?_); (case k1 => walk_at "vside"); (case k2 => walk_at "vside"))
  | ((with_reducible refine' v_dputI ?k1 ?k2 ?_); (case k1 => walk_at "vside"); (case k2 => walk_at "vside"))
  | ((with_reducible refine' v_dgetI ?k1 ?k2 ?_); (case k1 => walk_at "vside"); (case k2 => walk_at "vside"))
  | ((with_reducible refine' v_dhasI ?k1 ?_); (case k1 => walk_at "vside"))
  | ((with_reducible refine' v_isqL ?k1 ?_); (case k1 => walk_at "vside"))
  | ((with_reducible refine' v_isqT ?k1 ?_); (case k1 => walk_at "vside"))
  | ((with_reducible refine' v_addS ?k1 ?_); (case k1 => walk_at "vside"))
  | ((with_reducible refine' v_lenSS ?k1 ?_); (case k1 => walk_at "vside"))
  | ((with_reducible refine' v_ixS ?k1 ?k2 ?_); (case k1 => walk_at "vside"); (case k2 => walk_at "vside"))
  | ((with_reducible refine' v_slS ?k1 ?_); (case k1 => walk_at "vside"))
  | ((with_reducible refine' v_idx ?k1 ?_); (case k1 => walk_at "vside"))
  | ((with_reducible refine' v_all ?k1 ?_); (case k1 => walk_at "vside"))
  | ((with_reducible refine' v_sum ?k1 ?_); (case k1 => walk_at "vside"))
  | ((with_reducible refine' v_rng1 ?k1 ?_); (case k1 => walk_at "vside"))
  | ((with_reducible refine' v_rng2 ?k1 ?_); (case k1 => walk_at "vside")))
local macro_rules | `(tactic| walk_at "vc") => `(tactic| repeat walk_at "v1")
local macro_rules | `(tactic| walk_at "vlen") => `(tactic| (intro vs H Q E h; (repeat' (obtain ⟨_, h⟩ := h)); all_goals (first | (subst_vars; rfl) | (simp_all))))
open K45
section
variable {P : Program} {w : World} {K : PySem.W.Frag} {mg : Str → Option Value} {base : Heap}
def spLawBend (K : PySem.W.Frag) : Sp := fun vs H Q _ => ∃ (p a : Addr) (ws : List (List Nat)) (L : List Nat), vs = [.ref p, .ref a, .str (S L)] ∧ PoolAt H p ∧ H a = some (.lst (ws.map strV)) ∧ 1 ≤ ws.length ∧ ws.length ≤ 10000 ∧ (∀ u ∈ ws, u.length ≤ 10000) ∧ L.length ≤ 26 ∧ Bt K p H Q
theorem elt_cut {H : Hp} {xs : List V} {lo hi : Option Int} (h : ∀ v ∈ xs, Elt K H v) : ∀ v ∈ cutV xs lo hi, Elt K H v := fun v hv => h v (cutV_mem hv)
theorem elt_app {H : Hp} {xs ys : List V} (h1 : ∀ v ∈ xs, Elt K H v) (h2 : ∀ v ∈ ys, Elt K H v) : ∀ v ∈ xs ++ ys, Elt K H v := fun v hv => (List.mem_append.mp hv).elim (h1 v) (h2 v)
theorem v_decB {c : Prop} [Decidable c] {A B : Prop} (h2 : B) (h1 : c → B → A) : if decide c = true then A else B := v_dec (fun h => h1 h h2) fun _ => h2
theorem map_set {α β : Type} (f : α → β) : ∀ (l : List α) (k : Nat) (x : α), (l.set k x).map f = (l.map f).set k (f x)
  | [], _, _ => rfl
  | _ :: _, 0, _ => rfl
  | y :: r, k + 1, x => by
    show f y :: (r.set k x).map f = f y :: (r.map f).set k (f x)
    rw [map_set f r k x]
abbrev sLawBend : Stmt := top 17
theorem sc__law_bend : FnScope ["pool", "words", "letters", "out", "way", "at", "word", "spot", "gone", "signs", "k"] ["pool", "words", "letters"] (defScope sLawBend) := ⟨rfl, rfl, rfl, by decide +kernel, rfl, by decide +kernel, by decide +kernel⟩
theorem ok__law_bend (T : Tx K mg) : Cal P w K mg base "_law_bend" 4 ["pool", "words", "letters"] (spLawBend K) := by
  have sc := sc__law_bend
  refine Cal.of T.d__law_bend sc (fun _ _ _ _ _ _ us hl => match us, hl with | [_, _, _], _ => rfl) (by walk_at "vlen") (fun f cdv A outer s H vs Q E hr h => ?_)
  obtain ⟨p, a, ws, L, rfl, hp, ha, hw1, hw, hu, hL, q⟩ := h
  -- cells: ['gone', 'letters', 'word']
  refine ⟨_, (pss_cons
    (ps_set (i := 3) sc.nd rfl (Or.inl rfl) (pe_callTy (k_list (K := K) rfl) rfl T.f_list (by decide +kernel) (pa_cons (pv 1) pa_nil)))
    (pss_cons
    (ps_set (i := 4) sc.nd rfl (Or.inl rfl) (pe_cal (ok__law_draw T) hr passL (pa_cons (pv 0) (pa_cons pe_int pa_nil))))
    (pss_cons
    (ps_set (i := 5) sc.nd rfl (Or.inl rfl) (pe_cal (ok__law_draw T) hr passL (pa_cons (pv 0) (pa_cons (pe_callB (k_len (K := K) rfl) rfl T.f_len PySem.boot_len (pa_cons (pv 3) pa_nil)) pa_nil))))
    (pss_cons
    (ps_set (i := 6) sc.nd rfl (Or.inr rfl) (pe_ix (k_ixL (K := K) rfl) (pv 3) (pv 5) (fun _ _ => rfl)))
    (pss_cons
    (ps_set (i := 7) sc.nd rfl (Or.inl rfl) (pe_cal (ok__law_draw T) hr passL (pa_cons (pv 0) (pa_cons (pe_op w_add (pe_callB w_lenS rfl T.f_len PySem.boot_len (pa_cons (pv 6) pa_nil)) pe_int) pa_nil))))
    (pss_cons
    (ps_if (pt_cmpR op_eq (pv 4) pe_int (nomark _)) (pss_one
      (ps_ret (pe_callTy (k_tup (K := K) rfl) rfl T.f_tuple (by decide +kernel) (pa_cons (pe_op op_cat (pe_slice (k_slL (K := K) rfl) (pv 3) po_none (po_some (pv 5))) (pe_slice (k_slL (K := K) rfl) (pv 3) (po_some (pe_op w_add (pv 5) pe_int)) po_none)) pa_nil)))) pss_nil)
    (pss_cons
    (ps_if (pt_cmpR op_eq (pv 4) pe_int (nomark _)) (pss_one
      (ps_ret (pe_callTy (k_tup (K := K) rfl) rfl T.f_tuple (by decide +kernel) (pa_cons (pe_op op_cat (pe_slice (k_slL (K := K) rfl) (pv 3) po_none (po_some (pe_op w_add (pv 5) pe_int))) (pe_slice (k_slL (K := K) rfl) (pv 3) (po_some (pv 5)) po_none)) pa_nil)))) pss_nil)
    (pss_cons
    (ps_if (pt_cmpR op_eq (pv 4) pe_int (nomark _)) (pss_one
      (ps_ret (pe_callTy (k_tup (K := K) rfl) rfl T.f_tuple (by decide +kernel) (pa_cons (pe_op op_cat (pe_op op_cat (pe_slice (k_slL (K := K) rfl) (pv 3) po_none (po_some (pv 5))) (pe_slice (k_slL (K := K) rfl) (pv 3) (po_some (pe_op w_add (pv 5) pe_int)) po_none)) (pe_lst (pa_cons (pv 6) pa_nil))) pa_nil)))) pss_nil)
    (pss_cons
    (ps_if (PW.pt (pw_and (pt_cmpR op_eq (pv 4) pe_int (nomark _)) (pw_and1 (pt_cmpR op_ne (pv 2) (pe_strS [] (by decide +kernel)) (nomark _))))) (pss_cons
      (ps_asg (pe_op w_addS (pe_op w_addS (pe_slice sl_str (pv 6) po_none (po_some (pv 7))) (pe_ix ix_str (pv 2) (pe_cal (ok__law_draw T) hr passL (pa_cons (pv 0) (pa_cons (pe_callB w_lenS rfl T.f_len PySem.boot_len (pa_cons (pv 2) pa_nil)) pa_nil))) (fun _ _ => rfl))) (pe_slice sl_str (pv 6) (po_some (pe_op w_add (pv 7) pe_int)) po_none)) (pg_sub (pv 3) (pv 5) set_list))
      (pss_one
      (ps_ret (pe_callTy (k_tup (K := K) rfl) rfl T.f_tuple (by decide +kernel) (pa_cons (pe_callB (k_sortS (K := K) rfl) rfl T.f_sorted (by decide +kernel) (pa_cons (pv 3) pa_nil)) pa_nil))))) pss_nil)
    (pss_cons
    (ps_if (PW.pt (pw_and (pt_cmpR op_eq (pv 4) pe_int (nomark _)) (pw_and1 (pt_cmpR op_ne (pv 2) (pe_strS [] (by decide +kernel)) (nomark _))))) (pss_cons
      (ps_set (i := 8) sc.nd rfl (Or.inr rfl) (pe_cal (ok__law_draw T) hr passL (pa_cons (pv 0) (pa_cons (pe_callB w_lenS rfl T.f_len PySem.boot_len (pa_cons (pv 2) pa_nil)) pa_nil))))
      (pss_one
      (ps_ret (pe_callTy (k_tup (K := K) rfl) rfl T.f_tuple (by decide +kernel) (pa_cons (pe_op op_cat (pe_op op_cat (pe_slice (k_slL (K := K) rfl) (pv 3) po_none (po_some (pv 5))) (pe_lc (own := [("k", 10)]) rfl sc.nd (pi_range1 rfl T.f_range (pa_cons (pe_callB w_lenS rfl T.f_len PySem.boot_len (pa_cons (pv 2) pa_nil)) pa_nil)) (blkOk_by (N := ["pool", "words", "letters", "out", "way", "at", "word", "spot", "gone", "signs", "k"]) (sc := defScope sLawBend) (by decide +kernel)) (fun _ _ _ _ _ => (pg_name (i := 10) sc.nd rfl (Or.inl rfl))) (fun _ _ _ _ _ => (pts_one (pt_cmpR op_ne (pv 10) (pv 8) (nomark _)))) (fun _ _ _ _ _ => (pe_op w_addS (pv 6) (pe_ix ix_str (pv 2) (pv 10) (fun _ _ => rfl)))))) (pe_slice (k_slL (K := K) rfl) (pv 3) (po_some (pe_op w_add (pv 5) pe_int)) po_none)) pa_nil))))) pss_nil)
    (pss_cons
    (ps_if (pt_cmpR op_eq (pv 4) pe_int (nomark _)) (pss_cons
      (ps_asg (pe_slice sl_str (pv 6) po_none (po_some (pe_un w_neg pe_int))) (pg_sub (pv 3) (pv 5) set_list))
      (pss_one
      (ps_ret (pe_callTy (k_tup (K := K) rfl) rfl T.f_tuple (by decide +kernel) (pa_cons (pe_callB (k_sortS (K := K) rfl) rfl T.f_sorted (by decide +kernel) (pa_cons (pv 3) pa_nil)) pa_nil))))) pss_nil)
    (pss_cons
    (ps_if (pt_cmpR op_eq (pv 4) pe_int (nomark _)) (pss_cons
      (ps_set (i := 9) sc.nd rfl (Or.inl rfl) (pe_op w_addS (pe_op w_addS (pe_upS (pv 2)) (pe_lowS (pv 2))) (pe_strS [65, 90, 97, 122, 48, 57, 32, 46, 126] (by decide +kernel))))
      (pss_cons
      (ps_asg (pe_op w_addS (pe_op w_addS (pe_slice sl_str (pv 6) po_none (po_some (pv 7))) (pe_ix ix_str (pv 9) (pe_cal (ok__law_draw T) hr passL (pa_cons (pv 0) (pa_cons (pe_callB w_lenS rfl T.f_len PySem.boot_len (pa_cons (pv 9) pa_nil)) pa_nil))) (fun _ _ => rfl))) (pe_slice sl_str (pv 6) (po_some (pe_op w_add (pv 7) pe_int)) po_none)) (pg_sub (pv 3) (pv 5) set_list))
      (pss_one
      (ps_ret (pe_callTy (k_tup (K := K) rfl) rfl T.f_tuple (by decide +kernel) (pa_cons (pv 3) pa_nil)))))) pss_nil)
    (pss_cons
    (ps_if (pt_cmpR op_eq (pv 4) pe_int (nomark _)) (pss_one
      (ps_ret (pe_callTy (k_tup (K := K) rfl) rfl T.f_tuple (by decide +kernel) (pa_cons (pe_op op_cat (pe_op op_cat (pe_slice (k_slL (K := K) rfl) (pv 3) po_none (po_some (pv 5))) (pe_lst (pa_cons (pe_ix (k_ixL (K := K) rfl) (pe_lst (pa_cons pe_int (pa_cons (pe_un w_neg pe_int) (pa_cons (pe_tup (pa_cons (pv 6) pa_nil)) (pa_cons (pe_tup pa_nil) (pa_cons (pe_op w_pow pe_int pe_int) pa_nil)))))) (pe_cal (ok__law_draw T) hr passL (pa_cons (pv 0) (pa_cons pe_int pa_nil))) (fun _ _ => rfl)) pa_nil))) (pe_slice (k_slL (K := K) rfl) (pv 3) (po_some (pe_op w_add (pv 5) pe_int)) po_none)) pa_nil)))) pss_nil)
    (pss_one
    (ps_ret (pe_cal (ok__law_spoil T) hr passL (pa_cons (pv 0) (pa_cons (pe_callTy (k_tup (K := K) rfl) rfl T.f_tuple (by decide +kernel) (pa_cons (pv 3) pa_nil)) pa_nil)))))))))))))))))), ?_⟩
  have s0 : ∀ v0 v1 v2 : V, start ["pool", "words", "letters", "out", "way", "at", "word", "spot", "gone", "signs", "k"] [v0, v1, v2] = [some v0, some v1, some v2, none, none, none, none, none, none, none, none] := fun _ _ _ => rfl
  rw [s0]
  walk_at "vc"
  refine v_listL' (SqL.of ha) fun l H0 s0' f0 g0 => ?_
  have p0 := hp.same s0'
  have nl := hp.ne f0
  have b0 : But p H H0 := But.of s0'
  walk_at "vc"
  refine v_draw p0 (by omega) fun way H1 w0 w1 b1 p1 => ?_
  have g1 := b1 l _ nl g0
  walk_at "vc"
  rw [List.length_map]
  refine v_draw p1 (by omega) fun d H2 d0 d1 b2 p2 => ?_
  have g2 := b2 l _ nl g1
  obtain ⟨u, hk⟩ : ∃ u, ws[d.toNat]? = some u := ⟨_, List.getElem?_eq_getElem (by omega)⟩
  have lu := hu u (List.mem_of_getElem? hk)
  have ea : atI (ws.map strV) d = some (.str (S u)) := at_tupS d0 hk
  walk_at "vc"
  refine v_draw p2 (by omega) fun e H3 e0 e1 b3 p3 => ?_
  have g3 := b3 l _ nl g2
  have b := (b0.trans b1).trans (b2.trans b3)
  have he : ∀ H', ∀ v ∈ ws.map strV, Elt K H' v := fun H' => elt_strs fun u h => by have := hu u h; omega
  have cl := fun lo hi => by have := cutV_length (ws.map strV) lo hi; rw [List.length_map] at this; exact this
  -- the ends
  have fin : ∀ (c : Addr) (xs : List V) H4, But p H H4 → PoolAt H4 p → H4 c = some (.lst xs) → xs.length ≤ 100000 → (∀ H', Same H4 H' → ∀ v ∈ xs, Elt K H' v) → bTup K [.ref c] H4 Q := fun c xs H4 b4 p4 g4 z4 e4 =>
    v_tupL' (SqL.of g4) fun t H5 s5 f5 g5 => q t xs H5 (b4.same s5) (p4.same s5) (SqT.of g5) z4 (e4 H5 s5)
  have srt : ∀ (v : List Nat) H4, v.length ≤ 50000 → But p H3 H4 → PoolAt H4 p → bSortS K [.ref l] (upd H4 l (.lst ((ws.map strV).set d.toNat (.str (S v))))) fun x H1 => bTup K [x] H1 Q := fun v H4 lv b4 p4 =>
    v_sortS' (ws := ws.set d.toNat v) (SqL.of (by rw [upd_same, map_set])) fun us c H5 pm _ s5 f5 g5 => fin c _ H5 (((b.trans b4).fresh f0).same s5) ((p4.set nl).same s5) g5 (by rw [List.length_map, pm.length_eq, List.length_set]; omega) fun H' _ => elt_strs fun x hx => by
      rcases List.mem_or_eq_of_mem_set (pm.mem_iff.mp hx) with hx | rfl
      · have := hu x hx
        omega
      · omega
  have ix := ixN_ok (n := (ws.map strV).length) (i := d) d0 (by rw [List.length_map]; omega)
  walk_at "vc"
  refine v_decI (fun h => ?_) (fun h => ?_)
  · walk_at "vc"
    refine v_slL' (SqL.of g3) fun c1 H4 s4 f4 g4 => ?_
    have g34 := s4 _ _ g3
    have z1 := cl none (some d)
    have z2 := cl (some (d + 1)) none
    walk_at "vc"
    refine v_slL' (SqL.of g34) fun c2 H5 s5 f5 g5 => ?_
    walk_at "vc"
    refine v_cat' (s5 _ _ g4) g5 (by rw [sizeLine_eq]; omega) fun c3 H6 s6 f6 g6 => ?_
    have s36 := (s4.trans s5).trans s6
    walk_at "vc"
    exact fin c3 _ H6 (b.same s36) (p3.same s36) g6 (by rw [List.length_append]; omega) fun H' _ => elt_app (elt_cut (he H')) (elt_cut (he H'))
  walk_at "vc"
  refine v_decI (fun h => ?_) (fun h => ?_)
  · walk_at "vc"
    refine v_slL' (SqL.of g3) fun c1 H4 s4 f4 g4 => ?_
    have g34 := s4 _ _ g3
    have z1 := cl none (some (d + 1))
    have z2 := cl (some d) none
    walk_at "vc"
    refine v_slL' (SqL.of g34) fun c2 H5 s5 f5 g5 => ?_
    walk_at "vc"
    refine v_cat' (s5 _ _ g4) g5 (by rw [sizeLine_eq]; omega) fun c3 H6 s6 f6 g6 => ?_
    have s36 := (s4.trans s5).trans s6
    walk_at "vc"
    exact fin c3 _ H6 (b.same s36) (p3.same s36) g6 (by rw [List.length_append]; omega) fun H' _ => elt_app (elt_cut (he H')) (elt_cut (he H'))
  walk_at "vc"
  refine v_decI (fun h => ?_) (fun h => ?_)
  · walk_at "vc"
    refine v_slL' (SqL.of g3) fun c1 H4 s4 f4 g4 => ?_
    have g34 := s4 _ _ g3
    have z1 := cl none (some d)
    have z2 := cl (some (d + 1)) none
    walk_at "vc"
    refine v_slL' (SqL.of g34) fun c2 H5 s5 f5 g5 => ?_
    walk_at "vc"
    refine v_cat' (s5 _ _ g4) g5 (by rw [sizeLine_eq]; omega) fun c3 H6 s6 f6 g6 => ?_
    have s36 := (s4.trans s5).trans s6
    walk_at "vc"
    refine ⟨Nat.le_of_ble_eq_true rfl, fun c4 f7 => ?_⟩
    have s7 : Same H6 (upd H6 c4 (.lst [.str (S u)])) := (Same.refl H6).vnew f7
    have g7 : (upd H6 c4 (.lst [.str (S u)])) c4 = some (.lst [.str (S u)]) := upd_same
    generalize upd H6 c4 (.lst [.str (S u)]) = H7 at s7 g7
    refine v_cat' (s7 _ _ g6) g7 (by rw [sizeLine_eq, List.length_append, List.length_singleton]; omega) fun c5 H8 s8 f8 g8 => ?_
    walk_at "vc"
    have s := (s36.trans s7).trans s8
    exact fin c5 _ H8 (b.same s) (p3.same s) g8 (by rw [List.length_append, List.length_append, List.length_singleton]; omega) fun H' _ => elt_app (elt_app (elt_cut (he H')) (elt_cut (he H'))) (fun v hv => by rw [List.mem_singleton.mp hv]; exact .str u (by omega))
  walk_at "vc"
  have z3 := cutL_len u none (some e)
  have z4 := cutL_len u (some (e + 1)) none
  have z5 := cutL_len u none (some (-1))
  refine v_decB ?_ (fun h hB => ?_)
  rotate_left
  · walk_at "vc"
    refine v_decN (fun h2 => ?_) (fun _ => hB)
    have hl0 : 0 < L.length := Nat.pos_of_ne_zero fun e => h2 (by rw [List.length_eq_zero_iff.mp e])
    walk_at "vc"
    refine v_draw p3 (by omega) fun x H4 x0 x1 b4 p4 => ?_
    have g4 := b4 l _ nl g3
    obtain ⟨c, hc⟩ : ∃ c, atI L x = some c := ⟨_, at_get x0 (List.getElem?_eq_getElem (by omega))⟩
    walk_at "vc"
    exact srt _ H4 (by rw [List.length_append, List.length_append, List.length_singleton]; omega) b4 p4
  walk_at "vc"
  refine v_decB ?_ (fun h hB => ?_)
  rotate_left
  · walk_at "vc"
    refine v_decN (fun h2 => ?_) (fun _ => hB)
    have hl0 : 0 < L.length := Nat.pos_of_ne_zero fun e => h2 (by rw [List.length_eq_zero_iff.mp e])
    walk_at "vc"
    refine v_draw p3 (by omega) fun x H4 x0 x1 b4 p4 => ?_
    have g4 := b4 l _ nl g3
    walk_at "vc"
    refine v_slL' (SqL.of g4) fun c1 H5 s5 f5 g5 => ?_
    have g5l := s5 _ _ g4
    walk_at "vc"
    intro D hD
    refine lc_r (fun i H' => ∃ zs : List (List Nat), H' = upd H5 D (.lst (zs.map strV)) ∧ zs.length ≤ i ∧ ∀ z ∈ zs, z.length ≤ 20000) ⟨[], rfl, Nat.le_refl _, fun _ h => (by cases h)⟩ (fun i H' hi ⟨zs, e, z1, z2⟩ => ?_) (fun H' ⟨zs, e, z1, z2⟩ => ?_)
    · subst e
      walk_at "vc"
      refine ⟨rfl, ?_⟩
      walk_at "vc"
      refine v_decIN (fun h3 => ?_) (fun h3 => ?_)
      · obtain ⟨c, hc⟩ : ∃ c, atI L (0 + (i : Int)) = some c := ⟨_, at_get (by omega) (List.getElem?_eq_getElem (by omega))⟩
        walk_at "vc"
        refine ⟨_, upd_same, by rw [List.length_map, sizeLine_eq]; omega, zs ++ [u ++ [c]], by rw [upd_upd, List.map_append]; rfl, by rw [List.length_append, List.length_singleton]; omega, fun z hz => ?_⟩
        rcases List.mem_append.mp hz with hz | hz
        · exact z2 z hz
        · rw [List.mem_singleton.mp hz, List.length_append, List.length_singleton]
          omega
      · exact ⟨zs, rfl, by omega, z2⟩
    · subst e
      have s6 : Same H5 (upd H5 D (.lst (zs.map strV))) := (Same.refl H5).vnew hD
      have g6 : (upd H5 D (.lst (zs.map strV))) D = some (.lst (zs.map strV)) := upd_same
      generalize upd H5 D (.lst (zs.map strV)) = H6 at s6 g6
      have z6 := cl none (some d)
      have z7 := cl (some (d + 1)) none
      refine v_cat' (s6 _ _ g5) g6 (by rw [sizeLine_eq, List.length_map]; omega) fun c3 H7 s7 f7 g7 => ?_
      have g7l := s7 _ _ (s6 _ _ g5l)
      walk_at "vc"
      refine v_slL' (SqL.of g7l) fun c4 H8 s8 f8 g8 => ?_
      walk_at "vc"
      refine v_cat' (s8 _ _ g7) g8 (by rw [sizeLine_eq, List.length_append, List.length_map]; omega) fun c5 H9 s9 f9 g9 => ?_
      walk_at "vc"
      have s := (s5.trans s6).trans ((s7.trans s8).trans s9)
      exact fin c5 _ H9 ((b.trans b4).same s) (p4.same s) g9 (by rw [List.length_append, List.length_append, List.length_map]; omega) fun H' _ => elt_app (elt_app (elt_cut (he H')) (elt_strs fun z hz => by have := z2 z hz; omega)) (elt_cut (he H'))
  walk_at "vc"
  refine v_decI (fun h => ?_) (fun h => ?_)
  · walk_at "vc"
    exact srt _ H3 (by omega) But.refl p3
  walk_at "vc"
  refine v_decI (fun h => ?_) (fun h => ?_)
  · walk_at "vc"
    refine v_case (by omega) fun k1 hk1 => ?_
    walk_at "vc"
    refine v_case (by omega) fun k2 hk2 => ?_
    walk_at "vc"
    have zk : (k1 ++ k2 ++ [65, 90, 97, 122, 48, 57, 32, 46, 126]).length = k1.length + k2.length + 9 := by rw [List.length_append, List.length_append]; rfl
    obtain ⟨sgn, hs⟩ : ∃ y, y = k1 ++ k2 ++ [65, 90, 97, 122, 48, 57, 32, 46, 126] := ⟨_, rfl⟩
    rw [← hs] at zk ⊢
    walk_at "vc"
    refine v_draw p3 (by omega) fun x H4 x0 x1 b4 p4 => ?_
    have g4 := b4 l _ nl g3
    obtain ⟨c, hc⟩ : ∃ c, atI sgn x = some c := ⟨_, at_get x0 (List.getElem?_eq_getElem (by omega))⟩
    walk_at "vc"
    refine fin l _ _ ((b.trans b4).fresh f0) (p4.set nl) upd_same (by rw [List.length_set, List.length_map]; omega) fun H' _ v hv => ?_
    rcases List.mem_or_eq_of_mem_set hv with hv | rfl
    · exact he H' v hv
    · exact .str _ (by rw [List.length_append, List.length_append, List.length_singleton]; omega)
  walk_at "vc"
  refine v_decI (fun h => ?_) (fun h => ?_)
  · walk_at "vc"
    refine v_slL' (SqL.of g3) fun c1 H4 s4 f4 g4 => ?_
    have g4l := s4 _ _ g3
    have z6 := cl none (some d)
    have z7 := cl (some (d + 1)) none
    walk_at "vc"
    refine ⟨Nat.le_of_ble_eq_true rfl, fun t1 f5 => ?_⟩
    have s5 : Same H4 (upd H4 t1 (.tup [.str (S u)])) := (Same.refl H4).vnew f5
    have g5 : (upd H4 t1 (.tup [.str (S u)])) t1 = some (.tup [.str (S u)]) := upd_same
    generalize upd H4 t1 (.tup [.str (S u)]) = H5 at s5 g5
    walk_at "vc"
    refine ⟨Nat.le_of_ble_eq_true rfl, fun t2 f6 => ?_⟩
    have s6 : Same H5 (upd H5 t2 (.tup [])) := (Same.refl H5).vnew f6
    have g6 : (upd H5 t2 (.tup [])) t2 = some (.tup []) := upd_same
    generalize upd H5 t2 (.tup []) = H6 at s6 g6
    walk_at "vc"
    refine v_pow' (by decide) ?_
    walk_at "vc"
    refine ⟨Nat.le_of_ble_eq_true rfl, fun c2 f7 => ?_⟩
    have s7 : Same H6 (upd H6 c2 (.lst [V.int 0, V.int (-1), V.ref t1, V.ref t2, V.int (10 ^ (30 : Int).toNat)])) := (Same.refl H6).vnew f7
    have g7 : (upd H6 c2 (.lst [V.int 0, V.int (-1), V.ref t1, V.ref t2, V.int (10 ^ (30 : Int).toNat)])) c2 = some (.lst [V.int 0, V.int (-1), V.ref t1, V.ref t2, V.int (10 ^ (30 : Int).toNat)]) := upd_same
    generalize upd H6 c2 (.lst [V.int 0, V.int (-1), V.ref t1, V.ref t2, V.int (10 ^ (30 : Int).toNat)]) = H7 at s7 g7
    have p7 := ((p3.same s4).same s5).same (s6.trans s7)
    have n7 : c2 ≠ p := ((p3.same s4).same (s5.trans s6)).ne f7
    walk_at "vc"
    refine v_draw p7 (by omega) fun x H8 x0 x1 b8 p8 => ?_
    have g8 := b8 c2 _ n7 g7
    obtain ⟨v, hv⟩ : ∃ v, atI [V.int 0, V.int (-1), V.ref t1, V.ref t2, V.int (10 ^ (30 : Int).toNat)] x = some v := ⟨_, at_get x0 (List.getElem?_eq_getElem (show x.toNat < 5 by omega))⟩
    have g8l := b8 l _ nl (s7 _ _ (s6 _ _ (s5 _ _ g4l)))
    have g8c := b8 c1 _ ((p3.ne f4)) (s7 _ _ (s6 _ _ (s5 _ _ g4)))
    have ev : Elt K H8 v := by
      have m : v ∈ [V.int 0, V.int (-1), V.ref t1, V.ref t2, V.int (10 ^ (30 : Int).toNat)] := by
        obtain ⟨j, hj, hv⟩ := Option.bind_eq_some_iff.mp hv
        exact List.mem_of_getElem? hv
      rcases List.mem_cons.mp m with rfl | m
      · exact .int _
      rcases List.mem_cons.mp m with rfl | m
      · exact .int _
      rcases List.mem_cons.mp m with rfl | m
      · exact .tup _ _ (p7.tup b8 (SqT.of (s7 _ _ (s6 _ _ g5))))
      rcases List.mem_cons.mp m with rfl | m
      · exact .tup _ _ (p7.tup b8 (SqT.of (s7 _ _ g6)))
      · rw [List.mem_singleton.mp m]
        exact .int _
    walk_at "vc"
    refine ⟨Nat.le_of_ble_eq_true rfl, fun c3 f9 => ?_⟩
    have s9 : Same H8 (upd H8 c3 (.lst [v])) := (Same.refl H8).vnew f9
    have g9 : (upd H8 c3 (.lst [v])) c3 = some (.lst [v]) := upd_same
    generalize upd H8 c3 (.lst [v]) = H9 at s9 g9
    refine v_cat' (s9 _ _ g8c) g9 (by rw [sizeLine_eq, List.length_singleton]; omega) fun c4 H10 s10 f10 g10 => ?_
    have g10l := s10 _ _ (s9 _ _ g8l)
    walk_at "vc"
    refine v_slL' (SqL.of g10l) fun c5 H11 s11 f11 g11 => ?_
    walk_at "vc"
    refine v_cat' (s11 _ _ g10) g11 (by rw [sizeLine_eq, List.length_append, List.length_singleton]; omega) fun c6 H12 s12 f12 g12 => ?_
    walk_at "vc"
    have s := (s9.trans s10).trans (s11.trans s12)
    exact fin c6 _ H12 (((b.same ((s4.trans s5).trans (s6.trans s7))).trans b8).same s) (p8.same s) g12 (by rw [List.length_append, List.length_append, List.length_singleton]; omega) fun H' s' => elt_app (elt_app (elt_cut (he H')) (fun y hy => by rw [List.mem_singleton.mp hy]; exact ev.same (s.trans s'))) (elt_cut (he H'))
  · walk_at "vc"
    refine v_tupL' (SqL.of g3) fun t H4 s4 f4 g4 => ?_
    walk_at "vc"
    exact ⟨p, t, ws, rfl, p3.same s4, SqT.of g4, hw, hu, fun t2 ys H5 b5 p5 s5 z5 e5 => q t2 ys H5 ((b.same s4).trans b5) p5 s5 z5 e5⟩
end
end RC
namespace RC
open PySem PySem.Spec PyProof.Rows L2
local macro_rules | `(tactic| walk_at "vside") => `(tactic| first | assumption | exact rfl | omega | exact Nat.le_of_ble_eq_true rfl | exact SqL.of (by assumption) | exact SqT.of (by assumption) | exact SqL.of upd_same | exact SqT.of upd_same | exact upd_same | exact Rd.of (by assumption) | exact Rd.of upd_same | (rw [sizeLine_eq]; omega) | (simp only [List.length_append, List.length_cons, List.length_nil, List.length_map, sizeLine_eq]; omega))
local macro_rules | `(tactic| walk_at "v1") => `(tactic| first
  | (with_reducible first
    | refine v_seq ?_ | refine v_asg ?_ | refine v_ret ?_ | refine v_retN ?_ | refine v_next ?_ | refine v_drop ?_ | refine v_if ?_ | refine v_test ?_ | refine v_tB ?_ | refine v_bl ?_ | refine v_not ?_ | refine v_and ?_ | refine v_or ?_
    | refine v_andV ?_ | refine v_orV ?_ | refine v_notV ?_ | refine v_ifE ?_ | refine v_C ?_ | refine v_op ?_ | refine v_un ?_ | refine v_CB ?_ | refine v_CKw ?_ | refine v_nil ?_ | refine v_cons ?_ | refine v_call ?_ | refine v_tup ?_ | refine v_lst ?_
    | refine v_revT ?_ | refine v_sl ?_ | refine v_noPart ?_ | refine v_part ?_ | refine v_partI ?_ | refine v_add ?_ | refine v_sub ?_ | refine v_lt ?_ | refine v_le ?_ | refine v_gt ?_ | refine v_ge ?_ | refine v_neg ?_ | refine v_abs ?_ | refine v_int ?_
    | refine v_min2 ?_ | refine v_max2 ?_ | refine v_gSub ?_ | refine v_BM ?_ | refine v_BM0 ?_ | refine v_dput ?_ | refine v_dget ?_ | refine v_dnotin ?_ | refine v_din ?_ | refine v_for ?_ | refine v_iRng1 ?_ | refine v_iRng2 ?_ | refine v_iList ?_ | refine v_iTup ?_ | refine v_lc ?_ | refine v_yes ?_ | refine v_chain ?_ | refine v_M1 ?_ | refine v_M0 ?_ | refine v_isStr ?_ | refine v_start ?_ | refine v_leS ?_ | refine v_inS ?_ | refine v_iStr ?_ | refine v_isS ?_ | refine v_intB' ?_ | refine v_tru ?_ | refine v_iteT ?_ | refine v_iteF ?_ | refine v_iteNT ?_ | refine v_iteNF ?_ | refine v_iKeys ?_)
  | ((with_reducible refine' v_var ?k1 ?_); (case k1 => exact rfl))
  | ((with_reducible refine' v_gName ?k1 ?_); (case k1 => (dsimp only [List.set, L2.wipe, List.map]; try exact rfl)))
  | ((with_reducible refine' v_mul ?k1 ?_); (case k1 => walk_at "vside"))
  | ((with_reducible refine' v_div ?k1 ?_); (case k1 => walk_at "vside"))
  | ((with_reducible refine' v_mod ?k1 ?_); (case k1 => walk_at "vside"))
  | ((with_reducible refine' v_eq ?k1 ?_); (case k1 => exact rfl))
  | ((with_reducible refine' v_ne ?k1 ?_); (case k1 => exact rfl))
  | ((with_reducible refine' v_isi ?k1 ?k2 ?_); (case k1 => first | exact tyX_tup (by assumption) | exact .base (.int _) | exact .base (.bl _) | exact .base (.str _) | exact .base .non | exact .base (.lst (by assumption)) | exact .base (.tup (by assumption)) | exact .base (.dK (by assumption))); (case k2 => first | exact kit_int_int | exact kit_int_bool | exact kit_int_str | exact kit_int_tuple | exact kit_int_list | exact kit_int_dict | exact kit_bool_int | exact kit_bool_bool | exact kit_bool_str | exact kit_bool_tuple | exact kit_bool_list | exact kit_bool_dict | exact kit_str_int | exact kit_str_bool | exact kit_str_str | exact kit_str_tuple | exact kit_str_list | exact kit_str_dict | exact kit_tuple_int | exact kit_tuple_bool | exact kit_tuple_str | exact kit_tuple_tuple | exact kit_tuple_list | exact kit_tuple_dict | exact kit_list_int | exact kit_list_bool | exact kit_list_str | exact kit_list_tuple | exact kit_list_list | exact kit_list_dict | exact kit_dict_int | exact kit_dict_bool | exact kit_dict_str | exact kit_dict_tuple | exact kit_dict_list | exact kit_dict_dict | exact kit_NoneType_int | exact kit_NoneType_bool | exact kit_NoneType_str | exact kit_NoneType_tuple | exact kit_NoneType_list | exact kit_NoneType_dict))
  | ((with_reducible refine' v_truL ?k1 ?_); (case k1 => walk_at "vside"))
  | ((with_reducible refine' v_truT ?k1 ?_); (case k1 => walk_at "vside"))
  | ((with_reducible refine' v_maxD ?k1 ?_); (case k1 => walk_at "vside"))
  | ((with_reducible refine' v_minD ?k1 ?_); (case k1 => walk_at "vside"))
  | ((with_reducible refine' v_lenL ?k1 ?_); (case k1 => walk_at "vside"))
  | ((with_reducible refine' v_lenT ?k1 ?_); (case k1 => walk_at "vside"))
  | ((with_reducible refine' v_lenD ?k1 ?_); (case k1 => walk_at "vside"))
  | ((with_reducible refine' v_ixL ?k1 ?k2 ?_); (case k1 => walk_at "vside"); (case k2 => walk_at "vside"))
  | ((with_reducible refine' v_ixT ?k1 ?k2 ?_); (case k1 => walk_at "vside"); (case k2 => walk_at "vside"))
  | ((with_reducible refine' v_setL ?k1 ?k2 ?_); (case k1 => walk_at "vside"); (case k2 => walk_at "vside"))
  | ((with_reducible refine' v_isL ?k1 ?_); (case k1 => walk_at "vside"))
  | ((with_reducible refine' v_append ?k1 ?k2 ?_); (case k1 => walk_at "vside"); (case k2 => walk_at "vside"))
  | ((with_reducible refine' v_dputI ?k1 ?k2 ?_); (case k1 => walk_at "vside"); (case k2 => walk_at "vside"))
  | ((with_reducible refine' v_dgetI ?k1 ?k2 ?_); (case k1 => walk_at "vside"); (case k2 => walk_at "vside"))
  | ((with_reducible refine' v_dhasI ?k1 ?_); (case k1 => walk_at "vside"))
  | ((with_reducible refine' v_isqL ?k1 ?_); (case k1 => walk_at "vside"))
  | ((with_reducible refine' v_isqT ?k1 ?_); (case k1 => walk_at "vside"))
  | ((with_reducible refine' v_addS ?k1 ?_); (case k1 => walk_at "vside"))
  | ((with_reducible refine' v_lenSS ?k1 ?_); (case k1 => walk_at "vside"))
  | ((with_reducible refine' v_ixS ?k1 ?k2 ?_); (case k1 => walk_at "vside"); (case k2 => walk_at "vside"))
  | ((with_reducible refine' v_slS ?k1 ?_); (case k1 => walk_at "vside"))
  | ((with_reducible refine' v_idx ?k1 ?_); (case k1 => walk_at "vside"))
  | ((with_reducible refine' v_all ?k1 ?_); (case k1 => walk_at "vside"))
  | ((with_reducible refine' v_sum ?k1 ?_); (case k1 => walk_at "vside"))
  | ((with_reducible refine' v_rng1 ?k1 ?_); (case k1 => walk_at "vside"))
  | ((with_reducible refine' v_rng2 ?k1 ?_); (case k1 => walk_at "vside")))
local macro_rules | `(tactic| walk_at "vc") => `(tactic| repeat walk_at "v1")
local macro_rules | `(tactic| walk_at "vlen") => `(tactic| (intro vs H Q E h; (repeat' (obtain ⟨_, h⟩ := h)); all_goals (first | (subst_vars; rfl) | (simp_all))))
open K45
section
variable {P : Program} {w : World} {K : PySem.W.Frag} {mg : Str → Option Value} {base : Heap}
theorem singles {us : List (List Nat)} {out : List Nat} (h : us.Perm (out.map fun c => [c])) : ∃ l : List Nat, us = l.map (fun c => [c]) ∧ l.Perm out := by
  refine ⟨us.map fun u => u.headD 0, ?_, ?_⟩
  · rw [List.map_map]
    conv => lhs; rw [← List.map_id us]
    refine List.map_congr_left fun u hu => ?_
    obtain ⟨c, _, rfl⟩ := List.mem_map.mp (h.mem_iff.mp hu)
    rfl
  · have := h.map fun u => u.headD 0
    rw [List.map_map] at this
    have e : out.map ((fun u : List Nat => u.headD 0) ∘ fun c => [c]) = out := by
      conv => rhs; rw [← List.map_id out]
      exact List.map_congr_left fun c _ => rfl
    rw [e] at this
    exact this
theorem asc_of {l : List Nat} (n : l.Nodup) (h : (l.map fun c => [c]).Pairwise (fun a b => ¬ b < a)) : Asc l := by
  rw [List.pairwise_map] at h
  refine (h.and n).imp fun {a b} g => ?_
  have h1 : ¬ b < a := fun e => g.1 (List.cons_lt_cons_iff.mpr (.inl e))
  have := g.2
  omega
theorem nodup_left {a b L : List Nat} (h : (a ++ b).Perm L) (n : L.Nodup) : a.Nodup := (List.nodup_append.mp (h.nodup_iff.mpr n)).1
def spLaw (K : PySem.W.Frag) : Sp := fun vs H Q _ => ∃ (a : Addr) (ns : List Int), vs = [.ref a] ∧ SqL K H a (ns.map V.int) ∧ ∀ H', Q (.bl true) H'
abbrev sLaw : Stmt := top 19
theorem sc_law : FnScope ["script", "pool", "signs", "letters", "words", "k", "told"] ["script"] (defScope sLaw) := ⟨rfl, rfl, rfl, by decide +kernel, rfl, by decide +kernel, by decide +kernel⟩
theorem ok_law (T : Tx K mg) {f : Addr} {fd : FuncData} (F : FunD K "law" "law" (defArgs sLaw) (defBody sLaw) (defScope sLaw) [] [] f fd) : FnOk P w K mg base L2.CX0 5 f fd ["script"] (spLaw K) := by
  have sc := sc_law
  refine F.ok (CX := L2.CX0) sc (by walk_at "vlen") (fun cdv A outer s H vs Q E hr h => ?_)
  obtain ⟨a, sc0, rfl, hS, q⟩ := h
  refine ⟨_, (pss_cons
    (ps_set (i := 1) sc.nd rfl (Or.inl rfl) (pe_cal (ok__law_pool T) hr passL (pa_cons (pv 0) (pa_cons pe_int pa_nil))))
    (pss_cons
    (ps_set (i := 2) sc.nd rfl (Or.inl rfl) (pe_strS [97, 98, 99, 100, 101, 102, 103, 104, 105, 106, 107, 108, 109, 110, 111, 112, 113, 114, 115, 116, 117, 118, 119, 120, 121, 122] (by decide +kernel)))
    (pss_join
    (ps_if (pt_cmpR op_eq (pe_cal (ok__law_draw T) hr passL (pa_cons (pv 1) (pa_cons pe_int pa_nil))) pe_int (nomark _)) (pss_one
      (ps_set (i := 2) sc.nd rfl (Or.inl rfl) (pe_strS [65, 66, 67, 68, 69, 70, 71, 72, 73, 74, 75, 76, 77, 78, 79, 80, 81, 82, 83, 84, 85, 86, 87, 88, 89, 90] (by decide +kernel)))) pss_nil)
    (pss_cons
    (ps_set (i := 3) sc.nd rfl (Or.inl rfl) (pe_joinS (K := K) rfl (pe_strS [] (by decide +kernel)) (pe_callB (k_sortS (K := K) rfl) rfl T.f_sorted (by decide +kernel) (pa_cons (pe_callTy (w_listS rfl) rfl T.f_list (by decide +kernel) (pa_cons (pe_cal (ok__law_some T) hr passL (pa_cons (pv 1) (pa_cons (pe_ix (k_ixL (K := K) rfl) (pe_lst (pa_cons pe_int (pa_cons pe_int (pa_cons pe_int (pa_cons pe_int (pa_cons pe_int (pa_cons pe_int (pa_cons pe_int (pa_cons pe_int pa_nil))))))))) (pe_cal (ok__law_draw T) hr passL (pa_cons (pv 1) (pa_cons pe_int pa_nil))) (fun _ _ => rfl)) (pa_cons (pv 2) pa_nil)))) pa_nil)) pa_nil))))
    (pss_cons
    (ps_set (i := 4) sc.nd rfl (Or.inl rfl) (pe_cal (ok__law_list T) hr passL (pa_cons (pv 1) (pa_cons (pv 3) pa_nil))))
    (pss_cons
    (ps_if (pt_not (pt_val (pe_cal (ok__law_right T) hr passL (pa_cons (pe_callTy (k_tup (K := K) rfl) rfl T.f_tuple (by decide +kernel) (pa_cons (pv 4) pa_nil)) (pa_cons (pv 3) pa_nil))))) (pss_one
      (ps_ret pe_bl)) pss_nil)
    (pss_cons
    (ps_set (i := 1) sc.nd rfl (Or.inl rfl) (pe_cal (ok__law_pool T) hr passL (pa_cons (pv 0) (pa_cons pe_int pa_nil))))
    (pss_cons
    (ps_for (passes_of rfl) rfl (pi_range1 rfl T.f_range (pa_cons (pe_ix (k_ixL (K := K) rfl) (pe_lst (pa_cons pe_int (pa_cons pe_int pa_nil))) (pe_callTy w_int rfl T.f_int (by decide +kernel) (pa_cons (pe_cmpR w_le (pe_callB (k_len (K := K) rfl) rfl T.f_len PySem.boot_len (pa_cons (pv 4) pa_nil)) pe_int (nomark _)) pa_nil)) (fun _ _ => rfl)) pa_nil)) (pg_name (i := 5) sc.nd rfl (Or.inl rfl)) (pss_one
      (ps_if (pt_not (pt_val (pe_cal (ok__law_right T) hr passL (pa_cons (pe_cal (ok__law_bend T) hr passL (pa_cons (pv 1) (pa_cons (pv 4) (pa_cons (pv 3) pa_nil)))) (pa_cons (pv 3) pa_nil))))) (pss_one
        (ps_ret pe_bl)) pss_nil)))
    (pss_cons
    (ps_for (passes_of rfl) rfl (k_iL (K := K) rfl (pe_lst (pa_cons (pe_tup (pa_cons (pe_strS [] (by decide +kernel)) pa_nil)) (pa_cons (pe_tup pa_nil) (pa_cons (pe_strS [] (by decide +kernel)) (pa_cons (pv 3) (pa_cons pe_int (pa_cons (pe_ix (k_ixL (K := K) rfl) (pv 4) pe_int (fun _ _ => rfl)) (pa_cons (pe_tup (pa_cons (pe_tup pa_nil) pa_nil)) (pa_cons (pe_tup (pa_cons (pe_tup (pa_cons (pe_strS [] (by decide +kernel)) pa_nil)) pa_nil)) (pa_cons (pe_tup (pa_cons (pe_strS [] (by decide +kernel)) (pa_cons (pe_strS [] (by decide +kernel)) pa_nil))) (pa_cons (pe_callTy (w_tupS rfl) rfl T.f_tuple (by decide +kernel) (pa_cons (pv 3) pa_nil)) (pa_cons (pe_op (k_catT (K := K) rfl) (pe_tup (pa_cons (pe_strS [] (by decide +kernel)) pa_nil)) (pe_callTy (k_tup (K := K) rfl) rfl T.f_tuple (by decide +kernel) (pa_cons (pv 4) pa_nil))) pa_nil))))))))))))) (pg_name (i := 6) sc.nd rfl (Or.inl rfl)) (pss_one
      (ps_if (pt_not (pt_val (pe_cal (ok__law_right T) hr passL (pa_cons (pv 6) (pa_cons (pv 3) pa_nil))))) (pss_one
        (ps_ret pe_bl)) pss_nil)))
    (pss_one
    (ps_ret pe_bl))))))))))), ?_⟩
  have s0 : ∀ v0 : V, start ["script", "pool", "signs", "letters", "words", "k", "told"] [v0] = [some v0, none, none, none, none, none, none] := fun _ => rfl
  rw [s0]
  walk_at "vc"
  refine ⟨a, sc0, 0, rfl, hS, by omega, by omega, fun p H1 fp s1 p1 => ?_⟩
  walk_at "vc"
  refine v_join (fun σ' H' => ∃ L : List Nat, σ' = [some (.ref a), some (.ref p), some (.str (S L)), none, none, none, none] ∧ L.Nodup ∧ L.length = 26 ∧ But p H1 H' ∧ PoolAt H' p) ?_ ?_
  · walk_at "vc"
    refine v_draw p1 (by omega) fun d H2 _ _ b2 p2 => ?_
    walk_at "vc"
    refine v_decI (fun _ => ?_) (fun _ => ?_)
    · walk_at "vc"
      exact ⟨_, rfl, by decide, rfl, b2, p2⟩
    · walk_at "vc"
      exact ⟨_, rfl, by decide, rfl, b2, p2⟩
  rintro σ' H2 ⟨L, rfl, nL, lL, b2, p2⟩
  walk_at "vc"
  refine ⟨Nat.le_of_ble_eq_true rfl, fun l0 f0 => ?_⟩
  have n0 := p2.ne f0
  have b3 : But p H1 (upd H2 l0 (.lst (([2, 2, 3, 1, 4, 5, 6, 0] : List Int).map V.int))) := b2.new f0
  have p3 : PoolAt (upd H2 l0 (.lst (([2, 2, 3, 1, 4, 5, 6, 0] : List Int).map V.int))) p := p2.set n0
  have g3 : (upd H2 l0 (.lst (([2, 2, 3, 1, 4, 5, 6, 0] : List Int).map V.int))) l0 = some (.lst (([2, 2, 3, 1, 4, 5, 6, 0] : List Int).map V.int)) := upd_same
  generalize hH3 : upd H2 l0 (.lst (([2, 2, 3, 1, 4, 5, 6, 0] : List Int).map V.int)) = H3 at b3 p3 g3
  have eH3 : upd H2 l0 (.lst [V.int 2, V.int 2, V.int 3, V.int 1, V.int 4, V.int 5, V.int 6, V.int 0]) = H3 := hH3
  rw [eH3]
  walk_at "vc"
  refine v_draw p3 (by omega) fun d H4 d0 d1 b4 p4 => ?_
  have g4 := b4 l0 _ n0 g3
  obtain ⟨m, hm, hm2⟩ := at_some (ns := [2, 2, 3, 1, 4, 5, 6, 0]) d0 d1
  have hm3 : 0 ≤ m ∧ m ≤ 6 := (by decide : ∀ n ∈ ([2, 2, 3, 1, 4, 5, 6, 0] : List Int), 0 ≤ n ∧ n ≤ 6) m hm2
  walk_at "vc"
  refine ⟨p, m.toNat, L, by rw [Int.toNat_of_nonneg hm3.1], p4, by omega, by omega, fun out rest H5 b5 p5 lo pm => ?_⟩
  walk_at "vc"
  refine v_listS' (by rw [sizeLine_eq]; omega) fun l1 H6 s6 f6 g6 => ?_
  walk_at "vc"
  refine v_sortS' (ws := out.map fun c => [c]) (SqL.of (by rw [g6, List.map_map]; rfl)) fun us l2 H7 pu pw s7 f7 g7 => ?_
  obtain ⟨l, rfl, pl⟩ := singles pu
  have hA := asc_of (pl.nodup_iff.mpr (nodup_left pm nL)) pw
  have ll : l.length = m.toNat := by rw [pl.length_eq, lo]
  walk_at "vc"
  refine v_join' (l := l) (SqL.of (by rw [g7, List.map_map]; rfl)) (by omega) ?_
  have p7 := (p5.same s6).same s7
  have b7 := (((b3.trans b4).trans b5).same s6).same s7
  walk_at "vc"
  refine ⟨p, l, rfl, p7, by omega, fun aw ws n H8 x8 n1 n2 => ?_⟩
  have g8 := x8.2.2.2.1
  have hlen := x8.2.2.2.2.1
  have hws := x8.2.2.2.2.2
  have same8 : Same H H8 := s1.but fp (b7.trans x8.1)
  walk_at "vc"
  refine v_tupL' (SqL.of g8) fun t H9 s9 f9 g9 => ?_
  have el : ∀ H', ∀ v ∈ ws.map strV, Elt K H' v := fun H' => elt_strs fun u h => by have := hws u h; omega
  walk_at "vc"
  refine ⟨.ref t, some (ws.map strV), l, rfl, by omega, hA, .tup t _ (SqT.of g9) (by rw [List.length_map]; omega) (el _), fun H10 s10 => ?_⟩
  have same10 := (same8.trans s9).trans s10
  have g10 := s10 _ _ (s9 _ _ g8)
  walk_at "vc"
  refine ⟨a, sc0, 1, rfl, same10.vlst hS, by omega, by omega, fun p2 H11 f11 s11 p11 => ?_⟩
  have g11 := s11 _ _ g10
  have nw : aw ≠ p2 := ne_of_none g10 f11
  walk_at "vc"
  refine ⟨Nat.le_of_ble_eq_true rfl, fun l3 f12 => ?_⟩
  have s12 : Same H11 (upd H11 l3 (.lst (([1, 4] : List Int).map V.int))) := (Same.refl H11).vnew f12
  have g12 : (upd H11 l3 (.lst (([1, 4] : List Int).map V.int))) l3 = some (.lst (([1, 4] : List Int).map V.int)) := upd_same
  generalize hH12 : upd H11 l3 (.lst (([1, 4] : List Int).map V.int)) = H12 at s12 g12
  have eH12 : upd H11 l3 (.lst [V.int 1, V.int 4]) = H12 := hH12
  rw [eH12]
  have g12w := s12 _ _ g11
  have p12 := p11.same s12
  walk_at "vc"
  obtain ⟨N, hN, hN2⟩ : ∃ N : Int, atI (([1, 4] : List Int).map V.int) (if decide (((ws.map strV).length : Int) ≤ 400) = true then 1 else 0) = some (.int N) ∧ 0 ≤ N ∧ N ≤ 4 := by
    split
    · exact ⟨4, rfl, by omega, by omega⟩
    · exact ⟨1, rfl, by omega, by omega⟩
  walk_at "vc"
  refine loop_range (fun i σ' H' => (∃ v5 : Option V, σ' = [some (.ref a), some (.ref p2), some (.str (S L)), some (.str (S l)), some (.ref aw), v5, none]) ∧ But p2 H12 H' ∧ PoolAt H' p2) ⟨⟨none, rfl⟩, But.refl, p12⟩ ?_ ?_
  · rintro i σ' H13 hi ⟨⟨v5, rfl⟩, b13, p13⟩
    walk_at "vc"
    refine ⟨p2, aw, ws, l, rfl, p13, b13 _ _ nw g12w, by omega, by omega, fun u hu => by have := hws u hu; omega, by omega, fun t2 ys H14 b14 p14 s14 z14 e14 => ?_⟩
    walk_at "vc"
    refine ⟨.ref t2, some ys, l, rfl, by omega, hA, .tup t2 ys s14 z14 e14, fun H15 s15 => ?_⟩
    walk_at "vc"
    exact ⟨⟨_, rfl⟩, (b13.trans b14).same s15, p14.same s15⟩
  rintro σ' J0 ⟨⟨v5, rfl⟩, b13, p13⟩
  have gw0 := b13 _ _ nw g12w
  obtain ⟨u0, hu0⟩ : ∃ u, ws[0]? = some u := ⟨_, List.getElem?_eq_getElem (by omega)⟩
  have lu0 := hws u0 (List.mem_of_getElem? hu0)
  have e0 : atI (ws.map strV) 0 = some (.str (S u0)) := at_tupS (by omega) hu0
  walk_at "vc"
  refine ⟨Nat.le_of_ble_eq_true rfl, fun t1 ft1 => ?_⟩
  have st1 : Same J0 (upd J0 t1 (.tup [.str (S [])])) := (Same.refl J0).vnew ft1
  have gt1 : (upd J0 t1 (.tup [.str (S [])])) t1 = some (.tup [.str (S [])]) := upd_same
  generalize upd J0 t1 (.tup [.str (S [])]) = J1 at st1 gt1
  walk_at "vc"
  refine ⟨Nat.le_of_ble_eq_true rfl, fun t2 ft2 => ?_⟩
  have st2 : Same J1 (upd J1 t2 (.tup [])) := (Same.refl J1).vnew ft2
  have gt2 : (upd J1 t2 (.tup [])) t2 = some (.tup []) := upd_same
  generalize upd J1 t2 (.tup []) = J2 at st2 gt2
  have gw2 := st2 _ _ (st1 _ _ gw0)
  walk_at "vc"
  refine ⟨Nat.le_of_ble_eq_true rfl, fun t3 ft3 => ?_⟩
  have st3 : Same J2 (upd J2 t3 (.tup [])) := (Same.refl J2).vnew ft3
  have gt3 : (upd J2 t3 (.tup [])) t3 = some (.tup []) := upd_same
  generalize upd J2 t3 (.tup []) = J3 at st3 gt3
  walk_at "vc"
  refine ⟨Nat.le_of_ble_eq_true rfl, fun t4 ft4 => ?_⟩
  have st4 : Same J3 (upd J3 t4 (.tup [.ref t3])) := (Same.refl J3).vnew ft4
  have gt4 : (upd J3 t4 (.tup [.ref t3])) t4 = some (.tup [.ref t3]) := upd_same
  generalize upd J3 t4 (.tup [.ref t3]) = J4 at st4 gt4
  walk_at "vc"
  refine ⟨Nat.le_of_ble_eq_true rfl, fun t5 ft5 => ?_⟩
  have st5 : Same J4 (upd J4 t5 (.tup [.str (S [])])) := (Same.refl J4).vnew ft5
  have gt5 : (upd J4 t5 (.tup [.str (S [])])) t5 = some (.tup [.str (S [])]) := upd_same
  generalize upd J4 t5 (.tup [.str (S [])]) = J5 at st5 gt5
  walk_at "vc"
  refine ⟨Nat.le_of_ble_eq_true rfl, fun t6 ft6 => ?_⟩
  have st6 : Same J5 (upd J5 t6 (.tup [.ref t5])) := (Same.refl J5).vnew ft6
  have gt6 : (upd J5 t6 (.tup [.ref t5])) t6 = some (.tup [.ref t5]) := upd_same
  generalize upd J5 t6 (.tup [.ref t5]) = J6 at st6 gt6
  walk_at "vc"
  refine ⟨Nat.le_of_ble_eq_true rfl, fun t7 ft7 => ?_⟩
  have st7 : Same J6 (upd J6 t7 (.tup [.str (S []), .str (S [])])) := (Same.refl J6).vnew ft7
  have gt7 : (upd J6 t7 (.tup [.str (S []), .str (S [])])) t7 = some (.tup [.str (S []), .str (S [])]) := upd_same
  generalize upd J6 t7 (.tup [.str (S []), .str (S [])]) = J7 at st7 gt7
  walk_at "vc"
  refine v_tupS' (by rw [sizeLine_eq]; omega) fun t8 J8 st8 ft8 gt8 => ?_
  walk_at "vc"
  refine ⟨Nat.le_of_ble_eq_true rfl, fun t9 ft9 => ?_⟩
  have st9 : Same J8 (upd J8 t9 (.tup [.str (S [])])) := (Same.refl J8).vnew ft9
  have gt9 : (upd J8 t9 (.tup [.str (S [])])) t9 = some (.tup [.str (S [])]) := upd_same
  generalize upd J8 t9 (.tup [.str (S [])]) = J9 at st9 gt9
  have gw9 := st9 _ _ (st8 _ _ (st7 _ _ (st6 _ _ (st5 _ _ (st4 _ _ (st3 _ _ gw2))))))
  walk_at "vc"
  refine v_tupL' (SqL.of gw9) fun t10 J10 st10 ft10 gt10 => ?_
  walk_at "vc"
  refine v_catA (SqT.of (st10 _ _ gt9)) (SqT.of gt10) (by rw [List.length_map, List.length_singleton, sizeLine_eq]; omega) fun t11 J11 st11 gt11 => ?_
  walk_at "vc"
  refine ⟨Nat.le_of_ble_eq_true rfl, fun t12 ft12 => ?_⟩
  have k11 := st11
  have k10 := st10.trans k11
  have k9 := st9.trans k10
  have k8 := st8.trans k9
  have k7 := st7.trans k8
  have k6 := st6.trans k7
  have k5 := st5.trans k6
  have k4 := st4.trans k5
  have k3 := st3.trans k4
  have k2 := st2.trans k3
  have toldAll : ∀ v ∈ [V.ref t1, V.ref t2, V.str (S []), V.str (S l), V.int 0, V.str (S u0), V.ref t4, V.ref t6, V.ref t7, V.ref t8, V.ref t11], ∃ o, Told K J11 v o := fun v hv => by
    have sE : ∀ z : Nat, Elt K J11 (.str (S [])) := fun _ => .str [] (by simp)
    rcases List.mem_cons.mp hv with rfl | hv
    · exact ⟨_, .tup _ _ (SqT.of (k2 _ _ gt1)) (by simp) fun v hv => by rw [List.mem_singleton.mp hv]; exact sE 0⟩
    rcases List.mem_cons.mp hv with rfl | hv
    · exact ⟨_, .tup _ _ (SqT.of (k3 _ _ gt2)) (by simp) fun v hv => by cases hv⟩
    rcases List.mem_cons.mp hv with rfl | hv
    · exact ⟨_, .str [] (by simp)⟩
    rcases List.mem_cons.mp hv with rfl | hv
    · exact ⟨_, .str l (by omega)⟩
    rcases List.mem_cons.mp hv with rfl | hv
    · exact ⟨_, .int 0⟩
    rcases List.mem_cons.mp hv with rfl | hv
    · exact ⟨_, .str u0 (by omega)⟩
    rcases List.mem_cons.mp hv with rfl | hv
    · exact ⟨_, .tup _ _ (SqT.of (k5 _ _ gt4)) (by simp) fun v hv => by rw [List.mem_singleton.mp hv]; exact .tup _ _ (SqT.of (k4 _ _ gt3))⟩
    rcases List.mem_cons.mp hv with rfl | hv
    · exact ⟨_, .tup _ _ (SqT.of (k7 _ _ gt6)) (by simp) fun v hv => by rw [List.mem_singleton.mp hv]; exact .tup _ _ (SqT.of (k6 _ _ gt5))⟩
    rcases List.mem_cons.mp hv with rfl | hv
    · exact ⟨_, .tup _ _ (SqT.of (k8 _ _ gt7)) (by simp) fun v hv => by
        rcases List.mem_cons.mp hv with rfl | hv
        · exact sE 0
        · rw [List.mem_singleton.mp hv]; exact sE 0⟩
    rcases List.mem_cons.mp hv with rfl | hv
    · exact ⟨_, .tup _ _ (SqT.of (k9 _ _ gt8)) (by rw [List.length_map]; omega) fun v hv => by
        obtain ⟨c, _, rfl⟩ := List.mem_map.mp hv
        exact .str [c] (by simp)⟩
    · rw [List.mem_singleton.mp hv]
      exact ⟨_, .tup _ _ gt11 (by rw [List.length_append, List.length_map, List.length_singleton]; omega) fun v hv => by
        rcases List.mem_append.mp hv with hv | hv
        · rw [List.mem_singleton.mp hv]; exact sE 0
        · exact el _ v hv⟩
  have st12 : Same J11 (upd J11 t12 (.lst [V.ref t1, V.ref t2, V.str (S []), V.str (S l), V.int 0, V.str (S u0), V.ref t4, V.ref t6, V.ref t7, V.ref t8, V.ref t11])) := (Same.refl J11).vnew ft12
  have gt12 : (upd J11 t12 (.lst [V.ref t1, V.ref t2, V.str (S []), V.str (S l), V.int 0, V.str (S u0), V.ref t4, V.ref t6, V.ref t7, V.ref t8, V.ref t11])) t12 = some (.lst [V.ref t1, V.ref t2, V.str (S []), V.str (S l), V.int 0, V.str (S u0), V.ref t4, V.ref t6, V.ref t7, V.ref t8, V.ref t11]) := upd_same
  generalize upd J11 t12 (.lst [V.ref t1, V.ref t2, V.str (S []), V.str (S l), V.int 0, V.str (S u0), V.ref t4, V.ref t6, V.ref t7, V.ref t8, V.ref t11]) = J12 at st12 gt12
  walk_at "vc"
  refine loop_list (xs := [V.ref t1, V.ref t2, V.str (S []), V.str (S l), V.int 0, V.str (S u0), V.ref t4, V.ref t6, V.ref t7, V.ref t8, V.ref t11]) (fun i σ' H' => (∃ v5 v6 : Option V, σ' = [some (.ref a), some (.ref p2), some (.str (S L)), some (.str (S l)), some (.ref aw), v5, v6]) ∧ Same J12 H') ⟨⟨_, _, rfl⟩, Same.refl J12⟩ (fun i σ' H' _ ⟨_, s⟩ => SqL.of (s _ _ gt12)) ?_ ?_
  · rintro i x σ' H13 hi ⟨⟨v5, v6, rfl⟩, s13⟩
    obtain ⟨o, ho⟩ := toldAll x (List.mem_of_getElem? hi)
    walk_at "vc"
    refine ⟨x, o, l, rfl, by omega, hA, (ho.same st12).same s13, fun H14 s14 => ?_⟩
    walk_at "vc"
    exact ⟨⟨_, _, rfl⟩, s13.trans s14⟩
  · rintro σ' H13 ⟨⟨v5, v6, rfl⟩, s13⟩
    walk_at "vc"
    exact q _
end
end RC
namespace RC
open PySem PySem.Spec PyProof.Rows L2
local macro_rules | `(tactic| walk_at "vside") => `(tactic| first | assumption | exact rfl | omega | exact Nat.le_of_ble_eq_true rfl | exact SqL.of (by assumption) | exact SqT.of (by assumption) | exact SqL.of upd_same | exact SqT.of upd_same | exact upd_same | exact Rd.of (by assumption) | exact Rd.of upd_same | (rw [sizeLine_eq]; omega) | (simp only [List.length_append, List.length_cons, List.length_nil, List.length_map, sizeLine_eq]; omega))
local macro_rules | `(tactic| walk_at "v1") => `(tactic| first
  | (with_reducible first
    | refine v_seq ?_ | refine v_asg ?_ | refine v_ret ?_ | refine v_retN ?_ | refine v_next ?_ | refine v_drop ?_ | refine v_if ?_ | refine v_test ?_ | refine v_tB ?_ | refine v_bl ?_ | refine v_not ?_ | refine v_and ?_ | refine v_or ?_
    | refine v_andV ?_ | refine v_orV ?_ | refine v_notV ?_ | refine v_ifE ?_ | refine v_C ?_ | refine v_op ?_ | refine v_un ?_ | refine v_CB ?_ | refine v_CKw ?_ | refine v_nil ?_ | refine v_cons ?_ | refine v_call ?_ | refine v_tup ?_ | refine v_lst ?_
    | refine v_revT ?_ | refine v_sl ?_ | refine v_noPart ?_ | refine v_part ?_ | refine v_partI ?_ | refine v_add ?_ | refine v_sub ?_ | refine v_lt ?_ | refine v_le ?_ | refine v_gt ?_ | refine v_ge ?_ | refine v_neg ?_ | refine v_abs ?_ | refine v_int ?_
    | refine v_min2 ?_ | refine v_max2 ?_ | refine v_gSub ?_ | refine v_BM ?_ | refine v_BM0 ?_ | refine v_dput ?_ | refine v_dget ?_ | refine v_dnotin ?_ | refine v_din ?_ | refine v_for ?_ | refine v_iRng1 ?_ | refine v_iRng2 ?_ | refine v_iList ?_ | refine v_iTup ?_ | refine v_lc ?_ | refine v_yes ?_ | refine v_chain ?_ | refine v_M1 ?_ | refine v_M0 ?_ | refine v_isStr ?_ | refine v_start ?_ | refine v_leS ?_ | refine v_inS ?_ | refine v_iStr ?_ | refine v_isS ?_ | refine v_intB' ?_ | refine v_tru ?_ | refine v_iteT ?_ | refine v_iteF ?_ | refine v_iteNT ?_ | refine v_iteNF ?_ | refine v_iKeys ?_)
  | ((with_reducible refine' v_var ?k1 ?_); (case k1 => exact rfl))
  | ((with_reducible refine' v_gName ?k1 ?_); (case k1 => (dsimp only [List.set, L2.wipe, List.map]; try exact rfl)))
  | ((with_reducible refine' v_mul ?k1 ?_); (case k1 => walk_at "vside"))
  | ((with_reducible refine' v_div ?k1 ?_); (case k1 => walk_at "vside"))
  | ((with_reducible refine' v_mod ?k1 ?_); (case k1 => walk_at "vside"))
  | ((with_reducible refine' v_eq ?k1 ?_); (case k1 => exact rfl))
  | ((with_reducible refine' v_ne ?k1 ?_); (case k1 => exact rfl))
  | ((with_reducible refine' v_isi ?k1 ?k2 ?_); (case k1 => first | exact tyX_tup (by assumption) | exact .base (.int _) | exact .base (.bl _) | exact .base (.str _) | exact .base .non | exact .base (.lst (by assumption)) | exact .base (.tup (by assumption)) | exact .base (.dK (by assumption))); (case k2 => first | exact kit_int_int | exact kit_int_bool | exact kit_int_str | exact kit_int_tuple | exact kit_int_list | exact kit_int_dict | exact kit_bool_int | exact kit_bool_bool | exact kit_bool_str | exact kit_bool_tuple | exact kit_bool_list | exact kit_bool_dict | exact kit_str_int | exact kit_str_bool | exact kit_str_str | exact kit_str_tuple | exact kit_str_list | exact kit_str_dict | exact kit_tuple_int | exact kit_tuple_bool | exact kit_tuple_str | exact kit_tuple_tuple | exact kit_tuple_list | exact kit_tuple_dict | exact kit_list_int | exact kit_list_bool | exact kit_list_str | exact kit_list_tuple | exact kit_list_list | exact kit_list_dict | exact kit_dict_int | exact kit_dict_bool | exact kit_dict_str | exact kit_dict_tuple | exact kit_dict_list | exact kit_dict_dict | exact kit_NoneType_int | exact kit_NoneType_bool | exact kit_NoneType_str | exact kit_NoneType_tuple | exact kit_NoneType_list | exact kit_NoneType_dict))
  | ((with_reducible refine' v_truL ?k1 ?_); (case k1 => walk_at "vside"))
  | ((with_reducible refine' v_truT ?k1 ?_); (case k1 => walk_at "vside"))
  | ((with_reducible refine' v_maxD ?k1 ?_); (case k1 => walk_at "vside"))
  | ((with_reducible refine' v_minD ?k1 ?_); (case k1 => walk_at "vside"))
  | ((with_reducible refine' v_lenL ?k1 ?_); (case k1 => walk_at "vside"))
  | ((with_reducible refine' v_lenT ?k1 ?_); (case k1 => walk_at "vside"))
  | ((with_reducible refine' v_lenD ?k1 ?_); (case k1 => walk_at "vside"))
  | ((with_reducible refine' v_ixL ?k1 ?k2 ?_); (case k1 => walk_at "vside"); (case k2 => walk_at "vside"))
  | ((with_reducible refine' v_ixT ?k1 ?k2 ?_); (case k1 => walk_at "vside"); (case k2 => walk_at "vside"))
  | ((with_reducible refine' v_setL ?k1 ?k2 ?_); (case k1 => walk_at "vside"); (case k2 => walk_at "vside"))
  | ((with_reducible refine' v_isL ?k1 ?_); (case k1 => walk_at "vside"))
  | ((with_reducible refine' v_append ?k1 ?k2 ?_); (case k1 => walk_at "vside"); (case k2 => walk_at "vside"))
  | ((with_reducible refine' v_dputI ?k1 ?k2 ?_); (case k1 => walk_at "vside"); (case k2 => walk_at "vside"))
  | ((with_reducible refine' v_dgetI ?k1 ?k2 ?_); (case k1 => walk_at "vside"); (case k2 => walk_at "vside"))
  | ((with_reducible refine' v_dhasI ?k1 ?_); (case k1 => walk_at "vside"))
  | ((with_reducible refine' v_isqL ?k1 ?_); (case k1 => walk_at "vside"))
  | ((with_reducible refine' v_isqT ?k1 ?_); (case k1 => walk_at "vside"))
  | ((with_reducible refine' v_addS ?k1 ?_); (case k1 => walk_at "vside"))
  | ((with_reducible refine' v_lenSS ?k1 ?_); (case k1 => walk_at "vside"))
  | ((with_reducible refine' v_ixS ?k1 ?k2 ?_); (case k1 => walk_at "vside"); (case k2 => walk_at "vside"))
  | ((with_reducible refine' v_slS ?k1 ?_); (case k1 => walk_at "vside"))
  | ((with_reducible refine' v_idx ?k1 ?_); (case k1 => walk_at "vside"))
  | ((with_reducible refine' v_all ?k1 ?_); (case k1 => walk_at "vside"))
  | ((with_reducible refine' v_sum ?k1 ?_); (case k1 => walk_at "vside"))
  | ((with_reducible refine' v_rng1 ?k1 ?_); (case k1 => walk_at "vside"))
  | ((with_reducible refine' v_rng2 ?k1 ?_); (case k1 => walk_at "vside")))
local macro_rules | `(tactic| walk_at "vc") => `(tactic| repeat walk_at "v1")
local macro_rules | `(tactic| walk_at "vlen") => `(tactic| (intro vs H Q E h; (repeat' (obtain ⟨_, h⟩ := h)); all_goals (first | (subst_vars; rfl) | (simp_all))))
def dG (x : Str) (i : Nat) : He.DefD := ⟨(x, none), x, x, defArgs (top i), defBody (top i), defScope (top i), [], []⟩
def hFn : List He.DefD := ([dG "is_word" 3, dG "is_prefix_free" 4, dG "powers_of" 5, dG "is_complete" 6, dG "_law_cell" 8, dG "_law_pool" 9, dG "_law_draw" 10, dG "_law_some" 11, dG "_law_bent" 12, dG "_law_spoil" 13, dG "_law_leaves" 14, dG "_law_split" 15, dG "_law_list" 16, dG "_law_bend" 17, dG "_law_right" 18, dG "law" 19] : List He.DefD)
def hFa : List He.Fa := ([.glo "is_word", .glo "is_prefix_free", .glo "powers_of", .glo "is_complete", .glo "_law_cell", .glo "_law_pool", .glo "_law_draw", .glo "_law_some", .glo "_law_bent", .glo "_law_spoil", .glo "_law_leaves", .glo "_law_split", .glo "_law_list", .glo "_law_bend", .glo "_law_right", .glo "law"] : List He.Fa) ++ ([.free "len", .free "abs", .free "int", .free "range", .free "list", .free "tuple", .free "max", .free "isinstance", .free "bool", .free "str", .free "sum", .free "sorted", .free "all", .int "MOST_WORDS" 5000, .int "MOST_LETTERS" 60] : List He.Fa)
def loose : List Str := (["MOST_WORDS", "MOST_LETTERS", "is_word", "is_prefix_free", "powers_of", "is_complete", "_law_cell", "_law_pool", "_law_draw", "_law_some", "_law_bent", "_law_spoil", "_law_leaves", "_law_split", "_law_list", "_law_bend"] : List Str) ++ (["_law_right"] : List Str)
abbrev hR : PySem.W.OpenRow := PySem.W.OpenLaw.row PySem.Challenge.rw_ringingchamber_k45_complete_lists
abbrev hk : PySem.W.Hook := He.hookD 4 hFa hFn
def hOb (s : PySem.W.SharedT) : He.AlD := He.obsDG 4 hFa hFn (HandSHeadRun.getT s)
theorem hOb_eq (s : PySem.W.SharedT) : hOb s = hk.obs s.abs := He.obsDG_eq (HandSHeadRun.getT_eq s)
theorem run (w : World) : HandSHeadRun.RunEq hR (PySem.W.view hR.prog [19]) hk hOb 20000 loose w := by
  intro os
  kernel_rfl
theorem facts {K : PySem.W.Frag} {h : Heap} {mg : Str → Option Value} (X : K.In h) (G : h.Ns mainGlobals mg) (c : He.SaysD hFa hFn K) : Tx K mg where
  d_is_word := by
    obtain ⟨fd, F⟩ := c.def_ 0 (d := dG "is_word" 3) rfl
    exact ⟨_, fd, F, He.glo_ok X G (c.fact 0 (f := .glo "is_word") rfl)⟩
  d_is_prefix_free := by
    obtain ⟨fd, F⟩ := c.def_ 1 (d := dG "is_prefix_free" 4) rfl
    exact ⟨_, fd, F, He.glo_ok X G (c.fact 1 (f := .glo "is_prefix_free") rfl)⟩
  d_powers_of := by
    obtain ⟨fd, F⟩ := c.def_ 2 (d := dG "powers_of" 5) rfl
    exact ⟨_, fd, F, He.glo_ok X G (c.fact 2 (f := .glo "powers_of") rfl)⟩
  d_is_complete := by
    obtain ⟨fd, F⟩ := c.def_ 3 (d := dG "is_complete" 6) rfl
    exact ⟨_, fd, F, He.glo_ok X G (c.fact 3 (f := .glo "is_complete") rfl)⟩
  d__law_cell := by
    obtain ⟨fd, F⟩ := c.def_ 4 (d := dG "_law_cell" 8) rfl
    exact ⟨_, fd, F, He.glo_ok X G (c.fact 4 (f := .glo "_law_cell") rfl)⟩
  d__law_pool := by
    obtain ⟨fd, F⟩ := c.def_ 5 (d := dG "_law_pool" 9) rfl
    exact ⟨_, fd, F, He.glo_ok X G (c.fact 5 (f := .glo "_law_pool") rfl)⟩
  d__law_draw := by
    obtain ⟨fd, F⟩ := c.def_ 6 (d := dG "_law_draw" 10) rfl
    exact ⟨_, fd, F, He.glo_ok X G (c.fact 6 (f := .glo "_law_draw") rfl)⟩
  d__law_some := by
    obtain ⟨fd, F⟩ := c.def_ 7 (d := dG "_law_some" 11) rfl
    exact ⟨_, fd, F, He.glo_ok X G (c.fact 7 (f := .glo "_law_some") rfl)⟩
  d__law_bent := by
    obtain ⟨fd, F⟩ := c.def_ 8 (d := dG "_law_bent" 12) rfl
    exact ⟨_, fd, F, He.glo_ok X G (c.fact 8 (f := .glo "_law_bent") rfl)⟩
  d__law_spoil := by
    obtain ⟨fd, F⟩ := c.def_ 9 (d := dG "_law_spoil" 13) rfl
    exact ⟨_, fd, F, He.glo_ok X G (c.fact 9 (f := .glo "_law_spoil") rfl)⟩
  d__law_leaves := by
    obtain ⟨fd, F⟩ := c.def_ 10 (d := dG "_law_leaves" 14) rfl
    exact ⟨_, fd, F, He.glo_ok X G (c.fact 10 (f := .glo "_law_leaves") rfl)⟩
  d__law_split := by
    obtain ⟨fd, F⟩ := c.def_ 11 (d := dG "_law_split" 15) rfl
    exact ⟨_, fd, F, He.glo_ok X G (c.fact 11 (f := .glo "_law_split") rfl)⟩
  d__law_list := by
    obtain ⟨fd, F⟩ := c.def_ 12 (d := dG "_law_list" 16) rfl
    exact ⟨_, fd, F, He.glo_ok X G (c.fact 12 (f := .glo "_law_list") rfl)⟩
  d__law_bend := by
    obtain ⟨fd, F⟩ := c.def_ 13 (d := dG "_law_bend" 17) rfl
    exact ⟨_, fd, F, He.glo_ok X G (c.fact 13 (f := .glo "_law_bend") rfl)⟩
  d__law_right := by
    obtain ⟨fd, F⟩ := c.def_ 14 (d := dG "_law_right" 18) rfl
    exact ⟨_, fd, F, He.glo_ok X G (c.fact 14 (f := .glo "_law_right") rfl)⟩
  d_law := by
    obtain ⟨fd, F⟩ := c.def_ 15 (d := dG "law" 19) rfl
    exact ⟨_, fd, F, He.glo_ok X G (c.fact 15 (f := .glo "law") rfl)⟩
  f_len := He.free_ok X G (c.fact 16 (f := .free "len") rfl)
  f_abs := He.free_ok X G (c.fact 17 (f := .free "abs") rfl)
  f_int := He.free_ok X G (c.fact 18 (f := .free "int") rfl)
  f_range := He.free_ok X G (c.fact 19 (f := .free "range") rfl)
  f_list := He.free_ok X G (c.fact 20 (f := .free "list") rfl)
  f_tuple := He.free_ok X G (c.fact 21 (f := .free "tuple") rfl)
  f_max := He.free_ok X G (c.fact 22 (f := .free "max") rfl)
  f_isinstance := He.free_ok X G (c.fact 23 (f := .free "isinstance") rfl)
  f_bool := He.free_ok X G (c.fact 24 (f := .free "bool") rfl)
  f_str := He.free_ok X G (c.fact 25 (f := .free "str") rfl)
  f_sum := He.free_ok X G (c.fact 26 (f := .free "sum") rfl)
  f_sorted := He.free_ok X G (c.fact 27 (f := .free "sorted") rfl)
  f_all := He.free_ok X G (c.fact 28 (f := .free "all") rfl)
  c_MOST_WORDS := He.int_ok X G (c.fact 29 (f := .int "MOST_WORDS" 5000) rfl)
  c_MOST_LETTERS := He.int_ok X G (c.fact 30 (f := .int "MOST_LETTERS" 60) rfl)
end RC
open PySem PySem.W PySem.Calls PyProof.Rows
set_option maxHeartbeats 0 in
theorem PySem.Challenge.cw_ringingchamber_k45_complete_lists_holds : PySem.Challenge.rw_ringingchamber_k45_complete_lists.Holds := by
  w_on; o_law
  refine HandSHeadRun.head_any (r := OpenLaw.row PySem.Challenge.rw_ringingchamber_k45_complete_lists) (q := view (OpenLaw.row PySem.Challenge.rw_ringingchamber_k45_complete_lists).prog [19]) (H := RC.hk) (ob := RC.hOb) (M := 20000) (loose := RC.loose) (d := HandSHeadRun.topDef (OpenLaw.row PySem.Challenge.rw_ringingchamber_k45_complete_lists).prog 19) (kwd := []) RC.hOb_eq
    (by kernel_rfl) (fun s => by kernel_rfl) RC.run (by kernel_rfl) (by kernel_rfl) (by kernel_rfl) (by rfl) (by first | assumption | decide +kernel) (by decide +kernel) ⟨rfl, rfl, rfl, rfl, rfl, by decide +kernel⟩ ?hw ?hc
  case hw => w_witness2
  case hc =>
    refine L2.walk_ofE (l := PySem.Challenge.rw_ringingchamber_k45_complete_lists) (n := 63) (k := 5) (x := "script") (CX := L2.CX0) rfl (by decide) (by kernel_rfl) ⟨rfl, by decide, by decide⟩ ?F (fun _ _ _ _ z => z)
    intro w mg fa h Y G hmg0
    obtain ⟨K, KX, c⟩ := Y
    have T := RC.facts KX G c
    have hmg : mg ("law" : PySem.Str) = some (.ref fa) := by
      have e : (HandSHeadRun.topDef (OpenLaw.row PySem.Challenge.rw_ringingchamber_k45_complete_lists).prog 19).name = ("law" : PySem.Str) := by kernel_rfl
      rw [← e]
      exact hmg0
    obtain ⟨f, fd, F, hm⟩ := T.d_law
    have e := hmg.symm.trans hm
    cases e
    exact ⟨K, fd, RC.spLaw K, KX, fun s v => L2.FunD.bindsA (ps := ["script"]) F (fun _ _ _ _ _ _ us hl => match us, hl with | [_], _ => rfl) s [v] rfl, fun H a ns hl _ hS => ⟨a, ns, rfl, hS, fun _ => rfl⟩, fun base _ _ => RC.ok_law T F⟩
