import PyProof.Rows.All
import Wide.All
import OpenK.AllK
import Wide.FinOn
import KE.KStateDown
import HandS.ForMost
import HandS.Exc
import HandS.WordsExc
import HandS.Defaults
import HandS.Wide
import HandS.Style
import HandS.TupAny
import HandS.Walk
import HandS.IsInst
import HandS.Deep
import HandS.ExcCtx
import HandS.HotCalls
import HandS.ExcIs
import HandS.Lambda
import HandS.Head0
import HandS.Head1
import HandS.Head2
import HandS.HeadEnd
import HandS.HeadHook1
import HandS.HeadHook2
import HandS.HeadHook3
import HandS.HeadHook4
import HandS.HeadWalk
import KE.GoesEnum
import KE.GoesMore
import KE.KRevSl
import PySem.Challenge.RW_bentcurves_k06_whole_texts
import HandS.ExcValue
import HandS.DictTup
import HandS.More
import HandS.StrMore
import HandS.Steps
set_option Elab.async false
set_option linter.all false
set_option maxRecDepth 100000
set_option maxHeartbeats 4000000
namespace Bc
open PySem PySem.Spec PyProof.Rows L2
/-- exceptions whose context is None -/
abbrev CX (P : Program) (w : World) : CXT := L2N.CX P w
/-! ### a def of the module, called by its name -/
structure Cal (P : Program) (w : World) (K : PySem.W.Frag) (mg : Str → Option Value) (base : Heap) (CX : CXT) (k : Nat) (x : Str) (ps : List Str) (sp : Sp) : Prop where
  ex : ∃ fd, FnOk P w K mg base CX k (He.ga K x) fd ps sp ∧ Binds K fd ps []
  kp : PySem.W.keepIn K (.ref (He.ga K x)) = true
  gl : mg x = some (.ref (He.ga K x))
theorem Cal.mono {P : Program} {w : World} {K : PySem.W.Frag} {mg : Str → Option Value} {base : Heap} {CX : CXT} {j k : Nat} {x : Str} {ps : List Str} {sp : Sp} (G : Cal P w K mg base CX j x ps sp) (h : j ≤ k) : Cal P w K mg base CX k x ps sp := by
  obtain ⟨⟨fd, F, b⟩, kp, gl⟩ := G
  exact ⟨⟨fd, F.mono h, b⟩, kp, gl⟩
theorem Cal.imp {P : Program} {w : World} {K : PySem.W.Frag} {mg : Str → Option Value} {base : Heap} {CX : CXT} {k : Nat} {x : Str} {ps : List Str} {sp sp' : Sp} (G : Cal P w K mg base CX k x ps sp) (h : ∀ vs H Q E, sp' vs H Q E → sp vs H Q E) : Cal P w K mg base CX k x ps sp' := by
  obtain ⟨⟨fd, F, b⟩, kp, gl⟩ := G
  exact ⟨⟨fd, F.imp h, b⟩, kp, gl⟩
section
variable {X : Cx} {CX : CXT} {k : Nat} {ps : List Str} {sp : Sp} {E : XK} {x : Str} {p pos : Pos} {e : Expr} {es : List Expr} {t : TA}
theorem pe_c (G : Cal X.prog X.w X.K X.mg X.base CX k x ps sp) (hr : Room k X.A) (hx : Passes CX X E) (ha : PA X (e :: es) t) (hg : Gl X x := by rfl)
    (hdb : (x == ("__debug__" : Str)) = false := by decide) (he : starEach (e :: es) X.env = (false, eval e X.env) :: starEach es X.env := by rfl) (hpl : (backTo pos (starEach es X.env)).any (·.1) = false := by rfl) :
    PE X (.Call (.Name x p) (e :: es) [] pos) (tCall sp [] E t) := by
  obtain ⟨⟨fd, F, b⟩, kp, gl⟩ := G
  exact pe_call F hr hg gl kp b .nil hx ha hdb he hpl
end
/-! ### the text of the module behind its top -/
structure Tx (fn : List He.DefD) (gs fs : List Str) (K : PySem.W.Frag) (mg : Str → Option Value) : Prop where
  df : ∀ d ∈ fn, ∃ fd, FunD K d.name d.qual d.params d.body d.scope (d.dvs K) (d.kws K) (He.fAd K d.at_) fd
  gl : ∀ x ∈ gs, mg x = some (.ref (He.ga K x))
  fr : ∀ x ∈ fs, mg x = none
theorem cal_of {P : Program} {w : World} {K : PySem.W.Frag} {mg : Str → Option Value} {base : Heap} {CX : CXT} {k : Nat} {x : Str} {N ps : List Str} {sp : Sp} {st : Stmt} {fd : FuncData}
    (F : FunD K x x (defArgs st) (defBody st) (defScope st) [] [] (He.ga K x) fd) (gl : mg x = some (.ref (He.ga K x))) (S : FnScope N ps (defScope st))
    (hb : ∀ (kV doc pm : Value) (an : Option Addr) (cdv ct : Value) (us : List Value), us.length = ps.length → bindArgs (PySem.W.fnOf x x (defArgs st) (defBody st) (defScope st) .none kV doc pm an cdv ct) ⟨us, []⟩ = pure (ps.zip us))
    (len : ∀ vs H Q E, sp vs H Q E → vs.length = ps.length)
    (hbody : ∀ (cdv : Value) (A : Around) (outer : List Env) (s : Shared) (H : Hp) (vs : List V) (Q : VK) (E : XK), Room k (A.deeper (envOfC x (defScope st) s.heap.objs.size (He.ga K x) cdv)) → sp vs H Q E →
      ∃ t, PSs (cxOf CX P w K mg base N x (defScope st) (He.ga K x) cdv A outer s H E) (defBody st) t ∧ t { nx := fun _ H' => Q .non H', rt := Q } (start N vs) H) :
    Cal P w K mg base CX (k + 1) x ps sp :=
  ⟨⟨fd, F.ok S len hbody, F.bindsN hb⟩, F.kp, gl⟩
theorem cal_of0 {P : Program} {w : World} {K : PySem.W.Frag} {mg : Str → Option Value} {base : Heap} {k : Nat} {x : Str} {N ps : List Str} {sp : Sp} {st : Stmt} {fd : FuncData}
    (F : FunD K x x (defArgs st) (defBody st) (defScope st) [] [] (He.ga K x) fd) (gl : mg x = some (.ref (He.ga K x))) (S : FnScope N ps (defScope st))
    (hb : ∀ (kV doc pm : Value) (an : Option Addr) (cdv ct : Value) (us : List Value), us.length = ps.length → bindArgs (PySem.W.fnOf x x (defArgs st) (defBody st) (defScope st) .none kV doc pm an cdv ct) ⟨us, []⟩ = pure (ps.zip us))
    (len : ∀ vs H Q E, sp vs H Q E → vs.length = ps.length)
    (hbody : ∀ (cdv : Value) (A : Around) (outer : List Env) (s : Shared) (H : Hp) (vs : List V) (Q : VK) (E : XK), Room k (A.deeper (envOfC x (defScope st) s.heap.objs.size (He.ga K x) cdv)) → sp vs H Q E →
      ∃ t, PSs (cxOf CX0 P w K mg base N x (defScope st) (He.ga K x) cdv A outer s H E).nox (defBody st) t ∧ t { nx := fun _ H' => Q .non H', rt := Q } (start N vs) H) :
    Cal P w K mg base CX0 (k + 1) x ps sp :=
  cal_of F gl S hb len fun cdv A outer s H vs Q E hr h => by
    obtain ⟨t, h1, h2⟩ := hbody cdv A outer s H vs Q E hr h
    exact ⟨t, h1.nox, h2⟩
/-! ### great ints -/
/-- the product has less than some hundred million bits -/
def CM (i j : Int) : Prop := i.natAbs.log2 + j.natAbs.log2 < 134000000
theorem CM.ok {i j : Int} (h : CM i j) : IntMulOk i j := by
  have b : ∀ x : Int, Builtin.Int.intBits x ≤ x.natAbs.log2 + 1 := fun x => by
    unfold Builtin.Int.intBits
    split <;> omega
  have h1 := b i
  have h2 := b j
  have h3 : i.natAbs.log2 + j.natAbs.log2 < 134000000 := h
  have e : bitsLine = 134217728 := by decide
  unfold IntMulOk
  intro z
  rw [Bool.and_eq_true] at z
  have z2 := z.2
  unfold Builtin.Int.intTooBig at z2
  have z3 := of_decide_eq_true z2
  rw [e] at z3
  omega
/-- // by a divisor that is not 0 and has less than 9000 bits -/
def CD (_ j : Int) : Prop := j ≠ 0 ∧ j.natAbs.log2 < 9000
section
variable {X : Cx}
theorem op_mulM : OpR X (binaryOp .Mult) (rI CM fun i j => .int (i * j)) := opI fun _ _ _ _ _ _ _ hc q => mul_int q hc.ok
theorem op_fdivM : OpR X (binaryOp .FloorDiv) (rI CD fun i j => .int (i.fdiv j)) := opI fun _ _ _ _ _ _ _ hc q => floordiv_int hc.1 q (.inl (PyProof.noPylong_of_log2 hc.2))
end
/-- at most n bits -/
def Bd (n : Nat) (i : Int) : Prop := i.natAbs < 2 ^ n
theorem Bd.log2 {n : Nat} {i : Int} (h : Bd n i) : i.natAbs.log2 ≤ n := by
  by_cases h0 : i.natAbs = 0
  · rw [h0]; exact Nat.zero_le _
  · have := (Nat.log2_lt h0).mpr h
    omega
theorem Bd.mono {n m : Nat} {i : Int} (h : Bd n i) (k : n ≤ m) : Bd m i := Nat.lt_of_lt_of_le h (Nat.pow_le_pow_right (by decide) k)
theorem Bd.mul {n m : Nat} {i j : Int} (h : Bd n i) (k : Bd m j) : Bd (n + m) (i * j) := wide_lt h k
theorem Bd.add {n m : Nat} {i j : Int} (h : Bd n i) (k : Bd n j) (l : n + 1 ≤ m) : Bd m (i + j) := by
  refine Bd.mono (n := n + 1) ?_ l
  unfold Bd at *
  have : (i + j).natAbs ≤ i.natAbs + j.natAbs := Int.natAbs_add_le i j
  rw [Nat.pow_succ]
  omega
theorem Bd.neg {n : Nat} {i : Int} (h : Bd n i) : Bd n (-i) := by
  unfold Bd at *
  rw [Int.natAbs_neg]
  exact h
theorem Bd.cm {n m : Nat} {i j : Int} (h : Bd n i) (k : Bd m j) (l : n + m < 134000000) : CM i j := by
  have := h.log2
  have := k.log2
  unfold CM
  omega
/-! ### data that stays -/
theorem ex_t {K : PySem.W.Frag} {H H' : Hp} {a : Addr} {xs : List V} (e : Same H H') (h : SqT K H a xs) : SqT K H' a xs := by
  rcases h with (h | ⟨o, h⟩) | h
  · exact Or.inl (Or.inl (e a _ h))
  · exact Or.inl (Or.inr ⟨o, e a _ h⟩)
  · exact Or.inr h
theorem ex_l {K : PySem.W.Frag} {H H' : Hp} {a : Addr} {xs : List V} (e : Same H H') (h : SqL K H a xs) : SqL K H' a xs := Same.seq e h
theorem Same.new {H : Hp} {p : Addr} {o : HO} (h : H p = none) : Same H (upd H p o) := fun a u e => by
  rw [upd_ne (ne_of_none e h)]
  exact e
/-- an object that H does not know may change -/
theorem Same.mut {H H' : Hp} {p : Addr} {o : HO} (e : Same H H') (h : H p = none) : Same H (upd H' p o) := fun a u ha => by
  rw [upd_ne (ne_of_none ha h)]
  exact e a u ha
/-- a fraction as it stands -/
def IsFr (K : PySem.W.Frag) (H : Hp) (v : V) (q : Int × Int) : Prop := ∃ a, v = .ref a ∧ SqT K H a [.int q.1, .int q.2]
def IsRow (K : PySem.W.Frag) (H : Hp) (v : V) (r : List Int) : Prop := ∃ a, v = .ref a ∧ SqT K H a (r.map V.int)
theorem IsFr.ex {K : PySem.W.Frag} {H H' : Hp} {v : V} {q : Int × Int} (h : IsFr K H v q) (e : Same H H') : IsFr K H' v q := let ⟨a, e1, h1⟩ := h; ⟨a, e1, ex_t e h1⟩
theorem IsRow.ex {K : PySem.W.Frag} {H H' : Hp} {v : V} {r : List Int} (h : IsRow K H v r) (e : Same H H') : IsRow K H' v r := let ⟨a, e1, h1⟩ := h; ⟨a, e1, ex_t e h1⟩
/-- a fraction, a row is handed back; all that stood stands -/
def RetFr (K : PySem.W.Frag) (H : Hp) (Q : VK) (q : Int × Int) : Prop := ∀ v H', Same H H' → IsFr K H' v q → Q v H'
def RetRow (K : PySem.W.Frag) (H : Hp) (Q : VK) (r : List Int) : Prop := ∀ v H', Same H H' → IsRow K H' v r → Q v H'
theorem RetFr.new {K : PySem.W.Frag} {H H1 : Hp} {Q : VK} {q : Int × Int} (h : RetFr K H Q q) (e : Same H H1) {p : Addr} (hp : H1 p = none) : Q (.ref p) (upd H1 p (.tup [.int q.1, .int q.2])) :=
  h _ _ (e.trans (Same.new hp)) ⟨p, rfl, SqT.of upd_same⟩
theorem RetRow.new {K : PySem.W.Frag} {H H1 : Hp} {Q : VK} {r : List Int} (h : RetRow K H Q r) (e : Same H H1) {p : Addr} (hp : H1 p = none) : Q (.ref p) (upd H1 p (.tup (r.map V.int))) :=
  h _ _ (e.trans (Same.new hp)) ⟨p, rfl, SqT.of upd_same⟩
theorem RetFr.ex {K : PySem.W.Frag} {H H1 : Hp} {Q : VK} {q : Int × Int} (h : RetFr K H Q q) (e : Same H H1) : RetFr K H1 Q q := fun v H' e' h' => h v H' (e.trans e') h'
theorem RetRow.ex {K : PySem.W.Frag} {H H1 : Hp} {Q : VK} {r : List Int} (h : RetRow K H Q r) (e : Same H H1) : RetRow K H1 Q r := fun v H' e' h' => h v H' (e.trans e') h'
/-- a row that is a tuple of the heap -/
def IsRowN (H : Hp) (v : V) (r : List Int) : Prop := ∃ a, v = .ref a ∧ H a = some (.tup (r.map V.int))
theorem IsRowN.row {K : PySem.W.Frag} {H : Hp} {v : V} {r : List Int} (h : IsRowN H v r) : IsRow K H v r := let ⟨a, e, h1⟩ := h; ⟨a, e, SqT.of h1⟩
def RetRowN (H : Hp) (Q : VK) (r : List Int) : Prop := ∀ v H', Same H H' → IsRowN H' v r → Q v H'
theorem RetRow.n {K : PySem.W.Frag} {H : Hp} {Q : VK} {r : List Int} (h : RetRow K H Q r) : RetRowN H Q r := fun v H' e h' => h v H' e h'.row
theorem RetRowN.ex {H H1 : Hp} {Q : VK} {r : List Int} (h : RetRowN H Q r) (e : Same H H1) : RetRowN H1 Q r := fun v H' e' h' => h v H' (e.trans e') h'
theorem RetRowN.new {H H1 : Hp} {Q : VK} {r : List Int} (h : RetRowN H Q r) (e : Same H H1) {p : Addr} (hp : H1 p = none) : Q (.ref p) (upd H1 p (.tup (r.map V.int))) := h _ _ (e.trans (Same.new hp)) ⟨p, rfl, upd_same⟩
theorem Bd.of_log2 {n : Nat} {i : Int} (h : i.natAbs.log2 < n) : Bd n i := by
  by_cases h0 : i.natAbs = 0
  · unfold Bd; rw [h0]; exact Nat.pow_pos (by decide)
  · exact (Nat.log2_lt h0).mp h
/-- a fraction of some thousand bits, its bottom above 0 -/
def FrOk (q : Int × Int) : Prop := 0 < q.2 ∧ Bd 4000 q.1 ∧ Bd 4000 q.2
def frOk (q : Int × Int) : Bool := decide (0 < q.2) && (Nat.blt q.1.natAbs.log2 4000 && Nat.blt q.2.natAbs.log2 4000)
theorem frOk_ok {q : Int × Int} (h : frOk q = true) : FrOk q := by
  unfold frOk at h
  rw [Bool.and_eq_true, Bool.and_eq_true] at h
  exact ⟨of_decide_eq_true h.1, Bd.of_log2 (Nat.blt_eq.mp h.2.1), Bd.of_log2 (Nat.blt_eq.mp h.2.2)⟩
/-- a tuple's type -/
theorem ty_tup {K : PySem.W.Frag} {H : Hp} {a : Addr} {xs : List V} (h : SqT K H a xs) : TyX K H (.ref a) (.type "tuple") := by
  rcases h with (h | ⟨o, h⟩) | ⟨o, its, n, h, c, _⟩
  · exact .base (.tup h)
  · exact .fTuple h
  · exact .kTuple h c
theorem ty_lst {K : PySem.W.Frag} {H : Hp} {a : Addr} {xs : List V} (h : SqL K H a xs) : TyX K H (.ref a) (.type "list") := by
  rcases h with (h | ⟨o, h⟩) | ⟨o, its, n, h, c, _⟩
  · exact .base (.lst h)
  · exact .base (.frz h)
  · exact .kList h c
/-- the type of a datum -/
def tyD : PyData → Value
  | .none => .type "NoneType"
  | .bool _ => .type "bool"
  | .int _ => .type "int"
  | .str _ => .type "str"
  | .list _ => .type "list"
  | .tuple _ => .type "tuple"
  | .dict _ => .type "dict"
theorem ty_d {K : PySem.W.Frag} {H : Hp} {v : V} {d : PyData} (h : Dp K H v d) : TyX K H v (tyD d) := by
  cases h with
  | non => exact .base .non
  | bl b => exact .base (.bl b)
  | int i => exact .base (.int i)
  | str x => exact .base (.str x)
  | lst h _ => exact ty_lst h
  | tup h _ => exact ty_tup h
theorem sz2 : 2 ≤ sizeLine := by decide
end Bc
set_option Elab.async false
set_option linter.all false
set_option maxRecDepth 100000
set_option maxHeartbeats 4000000
namespace Bc
open PySem PySem.Spec PyProof.Rows L2
/-! ### data stays -/
mutual
theorem Dp.ex {K : PySem.W.Frag} {H H' : Hp} (e : Same H H') : ∀ {v : V} {d : PyData}, Dp K H v d → Dp K H' v d
  | _, _, .non => .non
  | _, _, .bl b => .bl b
  | _, _, .int i => .int i
  | _, _, .str x => .str x
  | _, _, .lst h a => .lst (ex_l e h) (DpAll.ex e a)
  | _, _, .tup h a => .tup (ex_t e h) (DpAll.ex e a)
theorem DpAll.ex {K : PySem.W.Frag} {H H' : Hp} (e : Same H H') : ∀ {vs : List V} {ds : List PyData}, DpAll K H vs ds → DpAll K H' vs ds
  | _, _, .nil => .nil
  | _, _, .cons h a => .cons (Dp.ex e h) (DpAll.ex e a)
end
theorem DpAll.length {K : PySem.W.Frag} {H : Hp} : ∀ {vs : List V} {ds : List PyData}, DpAll K H vs ds → vs.length = ds.length
  | _, _, .nil => rfl
  | _, _, .cons _ a => congrArg Nat.succ (DpAll.length a)
theorem DpAll.get {K : PySem.W.Frag} {H : Hp} : ∀ {vs : List V} {ds : List PyData} {i : Nat} {v : V}, DpAll K H vs ds → vs[i]? = some v → ∃ d, ds[i]? = some d ∧ Dp K H v d
  | _, _, _, _, .nil, e => by simp at e
  | _, _, 0, _, .cons h _, e => by simp at e; subst e; exact ⟨_, rfl, h⟩
  | _, _, i + 1, v, .cons _ t, e => by
    obtain ⟨d, h1, h2⟩ := DpAll.get (i := i) (v := v) t (by simpa using e)
    exact ⟨d, by simpa using h1, h2⟩
theorem DpAll.of_get {K : PySem.W.Frag} {H : Hp} : ∀ {vs : List V} {ds : List PyData}, vs.length = ds.length → (∀ (i : Nat) v d, vs[i]? = some v → ds[i]? = some d → Dp K H v d) → DpAll K H vs ds
  | [], [], _, _ => .nil
  | [], _ :: _, h, _ => by cases h
  | _ :: _, [], h, _ => by cases h
  | v :: vs, d :: ds, h, k => .cons (k 0 v d rfl rfl) (DpAll.of_get (Nat.succ.inj h) fun i v d a b => k (i + 1) v d (by simpa using a) (by simpa using b))
theorem dp_ints {K : PySem.W.Frag} {H : Hp} : ∀ r : List Int, DpAll K H (r.map V.int) (r.map PyData.int)
  | [] => .nil
  | i :: r => .cons (.int i) (dp_ints r)
def dFr (p : Int × Int) : PyData := .tuple [.int p.1, .int p.2]
def dRow (r : List Int) : PyData := .tuple (r.map PyData.int)
theorem IsRow.dp {K : PySem.W.Frag} {H : Hp} {v : V} {r : List Int} (h : IsRow K H v r) : Dp K H v (dRow r) := by
  obtain ⟨a, rfl, h⟩ := h
  exact .tup h (dp_ints r)
theorem canLay_ints : ∀ r : List Int, PyData.canLayAll0 (r.map PyData.int) = true
  | [] => rfl
  | _ :: r => by
    show (PyData.canLay0 (.int _) && PyData.canLayAll0 (r.map PyData.int)) = true
    rw [canLay_ints r] <;> rfl
theorem depth_ints : ∀ r : List Int, PyData.depthAll (r.map PyData.int) = 0
  | [] => rfl
  | _ :: r => by
    show max (PyData.depth (.int _)) (PyData.depthAll (r.map PyData.int)) = 0
    rw [depth_ints r] <;> rfl
theorem shaped_row (r : List Int) : SeqAt.shaped (dRow r) = true := by
  show (PyData.canLay0 (.tuple (r.map PyData.int)) && decide (PyData.depth (.tuple (r.map PyData.int)) ≤ 64)) = true
  rw [Bool.and_eq_true]
  refine ⟨canLay_ints r, decide_eq_true ?_⟩
  show PyData.depthAll (r.map PyData.int) + 1 ≤ 64
  rw [depth_ints]
  decide
theorem shaped_lrow (r : List Int) : SeqAt.shaped (.list (r.map PyData.int)) = true := by
  show (PyData.canLay0 (.list (r.map PyData.int)) && decide (PyData.depth (.list (r.map PyData.int)) ≤ 64)) = true
  rw [Bool.and_eq_true]
  refine ⟨canLay_ints r, decide_eq_true ?_⟩
  show PyData.depthAll (r.map PyData.int) + 1 ≤ 64
  rw [depth_ints]
  decide
theorem eqv_ints : ∀ a b : List Int, PyData.eqvAll (a.map PyData.int) (b.map PyData.int) = decide (a = b)
  | [], [] => rfl
  | [], _ :: _ => rfl
  | _ :: _, [] => rfl
  | i :: a, j :: b => by
    show ((i == j) && PyData.eqvAll (a.map PyData.int) (b.map PyData.int)) = decide (i :: a = j :: b)
    rw [eqv_ints a b]
    by_cases h1 : i = j
    · subst h1
      by_cases h2 : a = b
      · subst h2; simp
      · simp [h2]
    · simp [h1]
theorem eqv_row (a b : List Int) : PyData.eqv (dRow a) (dRow b) = decide (a = b) := eqv_ints a b
theorem eqv_lrow (a b : List Int) : PyData.eqv (.list (a.map PyData.int)) (.list (b.map PyData.int)) = decide (a = b) := eqv_ints a b
theorem shaped_item {xs : List PyData} (h : SeqAt.shaped (.tuple xs) = true) {x : PyData} (hx : x ∈ xs) : SeqAt.shaped x = true := by
  have hc : PyData.canLayAll0 xs = true := (Bool.and_eq_true_iff.mp h).1
  have hd : PyData.depthAll xs + 1 ≤ 64 := of_decide_eq_true (Bool.and_eq_true_iff.mp h).2
  have hdx := PyData.depth_le_depthAll xs x hx
  show (PyData.canLay0 x && decide (PyData.depth x ≤ 64)) = true
  rw [Bool.and_eq_true]
  exact ⟨PyData.canLay0_of_mem xs x hc hx, decide_eq_true (by omega)⟩
/-- a tuple stands when a list changes -/
theorem sqt_lst {K : PySem.W.Frag} {H : Hp} {a D : Addr} {xs l : List V} {o : HO} (hD : H D = some (.lst l)) (h : SqT K H a xs) : SqT K (upd H D o) a xs := by
  rcases h with (h | ⟨u, h⟩) | h
  · exact .inl (.inl (by rw [upd_ne (ne_of h hD (by intro z; cases z))]; exact h))
  · exact .inl (.inr ⟨u, by rw [upd_ne (ne_of h hD (by intro z; cases z))]; exact h⟩)
  · exact .inr h
def rLenK (K : PySem.W.Frag) : List V → Hp → VK → Prop := fun xs H Q => ∃ x n, xs = [x] ∧ LenV K x H n ∧ Q (.int n) H
theorem at0 {α : Type} {v : α} {vs : List α} : atI (v :: vs) 0 = some v := atI_nat (xs := v :: vs) (j := 0) rfl
theorem at1 {α : Type} {u v : α} {vs : List α} : atI (u :: v :: vs) 1 = some v := atI_nat (xs := u :: v :: vs) (j := 1) rfl
/-! ### list comprehensions of one name: each item's value stands in a relation that lasts -/
theorem wipe_one {σ : L2.St} {i : Nat} {x : V} : wipe ((wipe σ [i]).set i (some x)) [i] = wipe σ [i] := by
  show ((σ.set i none).set i (some x)).set i none = σ.set i none
  rw [List.set_set, List.set_set]
theorem yes_of {σ : L2.St} {H : Hp} {Q : Bool → Hp → Prop} (h : Q true H) : tYes σ H Q := h
section
variable {K : PySem.W.Frag} {a : Addr} {xs : List V} {te : TE} {σ : L2.St} {H1 : Hp} {D : Addr} {Qd : Hp → Prop} {i : Nat}
/-- D holds n items, each in its relation -/
def Made (H1 : Hp) (D : Addr) (R : Nat → V → Hp → Prop) (n : Nat) (H : Hp) : Prop := ∃ ys : List V, Same H1 H ∧ H D = some (.lst ys) ∧ ys.length = n ∧ ∀ j y, ys[j]? = some y → R j y H
theorem made_zero (hD : H1 D = none) (R : Nat → V → Hp → Prop) : Made H1 D R 0 (upd H1 D (.lst [])) := ⟨[], Same.new hD, upd_same, rfl, fun j y e => by simp at e⟩
theorem made_turn {R : Nat → V → Hp → Prop} (hR : ∀ i y H H', R i y H → Same H H' → R i y H') (hD : H1 D = none) (hDR : ∀ j y H l l', H D = some (.lst l) → R j y H → R j y (upd H D (.lst l'))) {n : Nat} {H : Hp} (hn : n < sizeLine) (m : Made H1 D R n H) {σ2 : L2.St}
    (hel : ∀ H, Same H1 H → ∀ Q : VK, (∀ y H', Same H H' → R n y H' → Q y H') → te σ2 H Q) :
    te σ2 H fun y H4 => ∃ acc, H4 D = some (.lst acc) ∧ acc.length < sizeLine ∧ Made H1 D R (n + 1) (upd H4 D (.lst (acc ++ [y]))) := by
  obtain ⟨ys, h1, h2, h3, h4⟩ := m
  refine hel H h1 _ fun y H' e r => ⟨ys, e D _ h2, by omega, ys ++ [y], Same.mut (h1.trans e) hD, upd_same, by rw [List.length_append, h3]; rfl, fun j z hz => ?_⟩
  by_cases hj : j < ys.length
  · rw [List.getElem?_append_left hj] at hz
    exact hDR _ _ _ _ _ (e D _ h2) (hR _ _ _ _ (h4 j z hz) e)
  · have hjl : j < (ys ++ [y]).length := (List.getElem?_eq_some_iff.mp hz).1
    rw [List.length_append] at hjl
    have : j = ys.length := by have : j < ys.length + 1 := hjl; omega
    subst this
    rw [List.getElem?_append_right (Nat.le_refl _), Nat.sub_self] at hz
    have e2 : y = z := by simpa using hz
    subst e2
    rw [h3]
    exact hDR _ _ _ _ _ (e D _ h2) r
theorem lc_listR (R : Nat → V → Hp → Prop) (hR : ∀ i y H H', R i y H → Same H H' → R i y H') (hDR : ∀ j y H l l', H D = some (.lst l) → R j y H → R j y (upd H D (.lst l'))) (hD : H1 D = none) (hS : SqL K H1 a xs) (hn : xs.length ≤ sizeLine)
    (hel : ∀ n x, xs[n]? = some x → ∀ H, Same H1 H → ∀ Q : VK, (∀ y H', Same H H' → R n y H' → Q y H') → te ((wipe σ [i]).set i (some x)) H Q)
    (hd : ∀ ys H, Same H1 H → H D = some (.lst ys) → ys.length = xs.length → (∀ j y, ys[j]? = some y → R j y H) → Qd H) :
    ∃ W : Nat → Nat → Hp → Prop, (∃ m, W 0 m (upd H1 D (.lst []))) ∧ ∀ j m H, W j m H →
      ((Itl K a).stop j H ∧ Qd H) ∨ ((Itl K a).go j H ∧ ∃ Nx : Hp → Prop, (∀ H', Nx H' → ∃ m', m' < m ∧ W (j + 1) m' H') ∧ ∀ x H', (Itl K a).yld j H x H' → gName i x (wipe σ [i]) H' fun σ2 H2 => wipe σ2 [i] = wipe σ [i] ∧ tYes σ2 H2 fun b H3 =>
        if b = true then te σ2 H3 fun y H4 => ∃ acc, H4 D = some (.lst acc) ∧ acc.length < sizeLine ∧ Nx (upd H4 D (.lst (acc ++ [y]))) else Nx H3) := by
  refine lc_list (xs := xs) (fun n H => Made H1 D R n H) (made_zero hD R) (fun n H _ m => ?_) (fun n x H hx m => ?_) (fun H m => ?_)
  · obtain ⟨ys, h1, _⟩ := m
    exact ex_l h1 hS
  · refine ⟨wipe_one, ?_⟩
    exact @iteT _ (Made H1 D R (n + 1) H) (made_turn hR hD hDR (Nat.lt_of_lt_of_le (List.getElem?_eq_some_iff.mp hx).1 hn) m (hel n x hx))
  · obtain ⟨ys, h1, h2, h3, h4⟩ := m
    exact hd ys H h1 h2 h3 h4
theorem lc_tupR (R : Nat → V → Hp → Prop) (hR : ∀ i y H H', R i y H → Same H H' → R i y H') (hDR : ∀ j y H l l', H D = some (.lst l) → R j y H → R j y (upd H D (.lst l'))) (hD : H1 D = none) (hS : SqT K H1 a xs) (hn : xs.length ≤ sizeLine)
    (hel : ∀ n x, xs[n]? = some x → ∀ H, Same H1 H → ∀ Q : VK, (∀ y H', Same H H' → R n y H' → Q y H') → te ((wipe σ [i]).set i (some x)) H Q)
    (hd : ∀ ys H, Same H1 H → H D = some (.lst ys) → ys.length = xs.length → (∀ j y, ys[j]? = some y → R j y H) → Qd H) :
    ∃ W : Nat → Nat → Hp → Prop, (∃ m, W 0 m (upd H1 D (.lst []))) ∧ ∀ j m H, W j m H →
      ((Itt K a).stop j H ∧ Qd H) ∨ ((Itt K a).go j H ∧ ∃ Nx : Hp → Prop, (∀ H', Nx H' → ∃ m', m' < m ∧ W (j + 1) m' H') ∧ ∀ x H', (Itt K a).yld j H x H' → gName i x (wipe σ [i]) H' fun σ2 H2 => wipe σ2 [i] = wipe σ [i] ∧ tYes σ2 H2 fun b H3 =>
        if b = true then te σ2 H3 fun y H4 => ∃ acc, H4 D = some (.lst acc) ∧ acc.length < sizeLine ∧ Nx (upd H4 D (.lst (acc ++ [y]))) else Nx H3) := by
  refine lc_tup (xs := xs) (fun n H => Made H1 D R n H) (made_zero hD R) (fun n H _ m => ?_) (fun n x H hx m => ?_) (fun H m => ?_)
  · obtain ⟨ys, h1, _⟩ := m
    exact ex_t h1 hS
  · refine ⟨wipe_one, ?_⟩
    exact @iteT _ (Made H1 D R (n + 1) H) (made_turn hR hD hDR (Nat.lt_of_lt_of_le (List.getElem?_eq_some_iff.mp hx).1 hn) m (hel n x hx))
  · obtain ⟨ys, h1, h2, h3, h4⟩ := m
    exact hd ys H h1 h2 h3 h4
theorem lc_rangeR {lo : Int} {N : Nat} (R : Nat → V → Hp → Prop) (hR : ∀ i y H H', R i y H → Same H H' → R i y H') (hDR : ∀ j y H l l', H D = some (.lst l) → R j y H → R j y (upd H D (.lst l'))) (hD : H1 D = none) (hn : N ≤ sizeLine)
    (hel : ∀ n, n < N → ∀ H, Same H1 H → ∀ Q : VK, (∀ y H', Same H H' → R n y H' → Q y H') → te ((wipe σ [i]).set i (some (.int (lo + n)))) H Q)
    (hd : ∀ ys H, Same H1 H → H D = some (.lst ys) → ys.length = N → (∀ j y, ys[j]? = some y → R j y H) → Qd H) :
    ∃ W : Nat → Nat → Hp → Prop, (∃ m, W 0 m (upd H1 D (.lst []))) ∧ ∀ j m H, W j m H →
      ((Itr lo N).stop j H ∧ Qd H) ∨ ((Itr lo N).go j H ∧ ∃ Nx : Hp → Prop, (∀ H', Nx H' → ∃ m', m' < m ∧ W (j + 1) m' H') ∧ ∀ x H', (Itr lo N).yld j H x H' → gName i x (wipe σ [i]) H' fun σ2 H2 => wipe σ2 [i] = wipe σ [i] ∧ tYes σ2 H2 fun b H3 =>
        if b = true then te σ2 H3 fun y H4 => ∃ acc, H4 D = some (.lst acc) ∧ acc.length < sizeLine ∧ Nx (upd H4 D (.lst (acc ++ [y]))) else Nx H3) := by
  refine lc_range (n := N) (fun n H => Made H1 D R n H) (made_zero hD R) (fun n H hx m => ?_) (fun H m => ?_)
  · refine ⟨wipe_one, ?_⟩
    exact @iteT _ (Made H1 D R (n + 1) H) (made_turn hR hD hDR (Nat.lt_of_lt_of_le hx hn) m (hel n hx))
  · obtain ⟨ys, h1, h2, h3, h4⟩ := m
    exact hd ys H h1 h2 h3 h4
end
/-- the items are what a function says -/
theorem vals_eq {α : Type} {f : Nat → α} {ys : List α} {n : Nat} (hl : ys.length = n) (h : ∀ (j : Nat) y, ys[j]? = some y → y = f j) : ys = (List.range n).map f := by
  refine List.ext_getElem? fun j => ?_
  by_cases hj : j < n
  · have e1 : ys[j]? = some (ys[j]'(by omega)) := List.getElem?_eq_getElem (by omega)
    rw [e1, h j _ e1, List.getElem?_map, List.getElem?_range hj] <;> rfl
  · rw [List.getElem?_eq_none (by omega), List.getElem?_eq_none (by simpa using hj)]
theorem vals_map {α β : Type} {f : α → β} {xs : List α} {ys : List β} (hl : ys.length = xs.length) (h : ∀ (j : Nat) x y, xs[j]? = some x → ys[j]? = some y → y = f x) : ys = xs.map f := by
  refine List.ext_getElem? fun j => ?_
  by_cases hj : j < xs.length
  · have e1 : ys[j]? = some (ys[j]'(by omega)) := List.getElem?_eq_getElem (by omega)
    have e2 : xs[j]? = some (xs[j]'hj) := List.getElem?_eq_getElem hj
    rw [e1, h j _ _ e2 e1, List.getElem?_map, e2] <;> rfl
  · rw [List.getElem?_eq_none (by omega), List.getElem?_eq_none (by simpa using hj)]
/-! ### rows of rows -/
inductive Rws (K : PySem.W.Frag) (H : Hp) : List V → List (List Int) → Prop
  | nil : Rws K H [] []
  | cons {v : V} {vs : List V} {r : List Int} {rs : List (List Int)} : IsRow K H v r → Rws K H vs rs → Rws K H (v :: vs) (r :: rs)
theorem Rws.ex {K : PySem.W.Frag} {H H' : Hp} (e : Same H H') : ∀ {vs : List V} {rs : List (List Int)}, Rws K H vs rs → Rws K H' vs rs
  | _, _, .nil => .nil
  | _, _, .cons h t => .cons (h.ex e) (Rws.ex e t)
theorem IsRow.lst {K : PySem.W.Frag} {H : Hp} {D : Addr} {l : List V} {o : HO} {v : V} {r : List Int} (h : IsRow K H v r) (hD : H D = some (.lst l)) : IsRow K (upd H D o) v r := let ⟨a, e, h⟩ := h; ⟨a, e, sqt_lst hD h⟩
theorem Rws.lst {K : PySem.W.Frag} {H : Hp} {D : Addr} {l : List V} {o : HO} (hD : H D = some (.lst l)) : ∀ {vs : List V} {rs : List (List Int)}, Rws K H vs rs → Rws K (upd H D o) vs rs
  | _, _, .nil => .nil
  | _, _, .cons h t => .cons (h.lst hD) (Rws.lst hD t)
theorem Rws.length {K : PySem.W.Frag} {H : Hp} : ∀ {vs : List V} {rs : List (List Int)}, Rws K H vs rs → vs.length = rs.length
  | _, _, .nil => rfl
  | _, _, .cons _ t => congrArg Nat.succ (Rws.length t)
theorem Rws.get {K : PySem.W.Frag} {H : Hp} : ∀ {vs : List V} {rs : List (List Int)} {i : Nat} {v : V}, Rws K H vs rs → vs[i]? = some v → ∃ r, rs[i]? = some r ∧ IsRow K H v r
  | _, _, _, _, .nil, e => by simp at e
  | _, _, 0, _, .cons h _, e => by simp at e; subst e; exact ⟨_, rfl, h⟩
  | _, _, i + 1, v, .cons _ t, e => by
    obtain ⟨d, h1, h2⟩ := Rws.get (i := i) (v := v) t (by simpa using e)
    exact ⟨d, by simpa using h1, h2⟩
theorem Rws.at {K : PySem.W.Frag} {H : Hp} : ∀ {vs : List V} {rs : List (List Int)} {i : Nat} {r : List Int}, Rws K H vs rs → rs[i]? = some r → ∃ v, vs[i]? = some v ∧ IsRow K H v r
  | _, _, _, _, .nil, e => by simp at e
  | _, _, 0, _, .cons h _, e => by simp at e; subst e; exact ⟨_, rfl, h⟩
  | _, _, i + 1, v, .cons _ t, e => by
    obtain ⟨d, h1, h2⟩ := Rws.at (i := i) t (by simpa using e)
    exact ⟨d, by simpa using h1, h2⟩
theorem Rws.append {K : PySem.W.Frag} {H : Hp} : ∀ {vs us : List V} {rs ss : List (List Int)}, Rws K H vs rs → Rws K H us ss → Rws K H (vs ++ us) (rs ++ ss)
  | _, _, _, _, .nil, h => h
  | _, _, _, _, .cons h t, k => .cons h (Rws.append t k)
theorem Rws.of_get {K : PySem.W.Frag} {H : Hp} : ∀ {vs : List V} {rs : List (List Int)}, vs.length = rs.length → (∀ (i : Nat) v r, vs[i]? = some v → rs[i]? = some r → IsRow K H v r) → Rws K H vs rs
  | [], [], _, _ => .nil
  | [], _ :: _, h, _ => by cases h
  | _ :: _, [], h, _ => by cases h
  | v :: vs, d :: ds, h, k => .cons (k 0 v d rfl rfl) (Rws.of_get (Nat.succ.inj h) fun i v d a b => k (i + 1) v d (by simpa using a) (by simpa using b))
/-- a list of rows as it stands -/
def IsRows (K : PySem.W.Frag) (H : Hp) (v : V) (c : List (List Int)) : Prop := ∃ a vs, v = .ref a ∧ H a = some (.lst vs) ∧ Rws K H vs c
theorem IsRows.ex {K : PySem.W.Frag} {H H' : Hp} {v : V} {c : List (List Int)} (h : IsRows K H v c) (e : Same H H') : IsRows K H' v c := let ⟨a, vs, e1, h1, h2⟩ := h; ⟨a, vs, e1, e _ _ h1, h2.ex e⟩
theorem IsRowN.ex {H H' : Hp} {v : V} {r : List Int} (h : IsRowN H v r) (e : Same H H') : IsRowN H' v r := let ⟨a, e1, h1⟩ := h; ⟨a, e1, e _ _ h1⟩
theorem IsRowN.lst {H : Hp} {D : Addr} {l : List V} {o : HO} {v : V} {r : List Int} (h : IsRowN H v r) (hD : H D = some (.lst l)) : IsRowN (upd H D o) v r := let ⟨a, e, h⟩ := h; ⟨a, e, by rw [upd_ne (ne_of h hD (by intro z; cases z))]; exact h⟩
inductive RwsN (H : Hp) : List V → List (List Int) → Prop
  | nil : RwsN H [] []
  | cons {v : V} {vs : List V} {r : List Int} {rs : List (List Int)} : IsRowN H v r → RwsN H vs rs → RwsN H (v :: vs) (r :: rs)
theorem RwsN.ex {H H' : Hp} (e : Same H H') : ∀ {vs : List V} {rs : List (List Int)}, RwsN H vs rs → RwsN H' vs rs
  | _, _, .nil => .nil
  | _, _, .cons h t => .cons (h.ex e) (RwsN.ex e t)
theorem RwsN.lst {H : Hp} {D : Addr} {l : List V} {o : HO} (hD : H D = some (.lst l)) : ∀ {vs : List V} {rs : List (List Int)}, RwsN H vs rs → RwsN (upd H D o) vs rs
  | _, _, .nil => .nil
  | _, _, .cons h t => .cons (h.lst hD) (RwsN.lst hD t)
theorem RwsN.length {H : Hp} : ∀ {vs : List V} {rs : List (List Int)}, RwsN H vs rs → vs.length = rs.length
  | _, _, .nil => rfl
  | _, _, .cons _ t => congrArg Nat.succ (RwsN.length t)
theorem RwsN.get {H : Hp} : ∀ {vs : List V} {rs : List (List Int)} {i : Nat} {v : V}, RwsN H vs rs → vs[i]? = some v → ∃ r, rs[i]? = some r ∧ IsRowN H v r
  | _, _, _, _, .nil, e => by simp at e
  | _, _, 0, _, .cons h _, e => by simp at e; subst e; exact ⟨_, rfl, h⟩
  | _, _, i + 1, v, .cons _ t, e => by
    obtain ⟨d, h1, h2⟩ := RwsN.get (i := i) (v := v) t (by simpa using e)
    exact ⟨d, by simpa using h1, h2⟩
theorem RwsN.at {H : Hp} : ∀ {vs : List V} {rs : List (List Int)} {i : Nat} {r : List Int}, RwsN H vs rs → rs[i]? = some r → ∃ v, vs[i]? = some v ∧ IsRowN H v r
  | _, _, _, _, .nil, e => by simp at e
  | _, _, 0, _, .cons h _, e => by simp at e; subst e; exact ⟨_, rfl, h⟩
  | _, _, i + 1, v, .cons _ t, e => by
    obtain ⟨d, h1, h2⟩ := RwsN.at (i := i) t (by simpa using e)
    exact ⟨d, by simpa using h1, h2⟩
theorem RwsN.append {H : Hp} : ∀ {vs us : List V} {rs ss : List (List Int)}, RwsN H vs rs → RwsN H us ss → RwsN H (vs ++ us) (rs ++ ss)
  | _, _, _, _, .nil, h => h
  | _, _, _, _, .cons h t, k => .cons h (RwsN.append t k)
theorem RwsN.of_get {H : Hp} : ∀ {vs : List V} {rs : List (List Int)}, vs.length = rs.length → (∀ (i : Nat) v r, vs[i]? = some v → rs[i]? = some r → IsRowN H v r) → RwsN H vs rs
  | [], [], _, _ => .nil
  | [], _ :: _, h, _ => by cases h
  | _ :: _, [], h, _ => by cases h
  | v :: vs, d :: ds, h, k => .cons (k 0 v d rfl rfl) (RwsN.of_get (Nat.succ.inj h) fun i v d a b => k (i + 1) v d (by simpa using a) (by simpa using b))
theorem RwsN.rws {K : PySem.W.Frag} {H : Hp} : ∀ {vs : List V} {rs : List (List Int)}, RwsN H vs rs → Rws K H vs rs
  | _, _, .nil => .nil
  | _, _, .cons h t => .cons h.row (RwsN.rws t)
def IsRowsN (H : Hp) (v : V) (c : List (List Int)) : Prop := ∃ a vs, v = .ref a ∧ H a = some (.lst vs) ∧ RwsN H vs c
theorem IsRowsN.ex {H H' : Hp} {v : V} {c : List (List Int)} (h : IsRowsN H v c) (e : Same H H') : IsRowsN H' v c := let ⟨a, vs, e1, h1, h2⟩ := h; ⟨a, vs, e1, e _ _ h1, h2.ex e⟩
theorem IsRowsN.rows {K : PySem.W.Frag} {H : Hp} {v : V} {c : List (List Int)} (h : IsRowsN H v c) : IsRows K H v c := let ⟨a, vs, e1, h1, h2⟩ := h; ⟨a, vs, e1, h1, h2.rws⟩
theorem cut1 (xs : List V) : cutV xs (some 1) none = xs.drop 1 := by
  unfold cutV
  have h : HT.sIx xs.length 0 (some 1) = min 1 xs.length := HT.sIx_nat xs.length 0 1
  rw [h]
  show (xs.drop (min 1 xs.length)).take (xs.length - min 1 xs.length) = xs.drop 1
  cases xs with
  | nil => rfl
  | cons a r => simp
theorem cut_last (xs : List V) : cutV xs none (some (-1)) = xs.dropLast := by
  unfold cutV
  show (xs.drop 0).take ((-1 + (xs.length : Int)).toNat - 0) = xs.dropLast
  rw [List.drop_zero, List.dropLast_eq_take]
  congr 1
  omega
theorem sz60 {n : Nat} (h : n ≤ 100000) : n ≤ sizeLine := Nat.le_trans h (by decide)
theorem sz60' {n : Nat} (h : n ≤ 100000) : n < sizeLine := Nat.lt_of_le_of_lt h (by decide)
end Bc
set_option Elab.async false
set_option linter.all false
set_option maxRecDepth 100000
set_option maxHeartbeats 4000000
/-! enumerate of a tuple; slices with a step -/
namespace Bc
open PySem PySem.Spec PyProof.Rows L2
set_option maxHeartbeats 2000000 in
theorem meets_enum1 {v : Value} {o : Obj} {H : Heap → Prop} (B : Begins v o H) :
    Meets (Builtin.«enumerate.__new__» ⟨[.type "enumerate", v], []⟩) (fun _ R s => H s.heap ∧
      R (.ok (.ret (.ref (s.heap.push o).objs.size))) { s with heap := (s.heap.push o).push { cls := .type "enumerate", data := .fields #[.none, .bool false, .ref s.heap.objs.size, rawInt 0, .none, .none] } }) :=
  .of_wp fun prog w A R s h => by
    obtain ⟨hp, g, d, tk, os⟩ := s; obtain ⟨h1, h⟩ := h
    have hsub := sub_enumerate
    have q1 : ∀ {A' : Around} {E : Value → Shared → Prop} {Q : Value → Shared → Prop}, Q (.ref hp.objs.size) ⟨hp.push o, g, d, tk, os⟩ → wpAny (model prog w) A' (pyIter v) Q E ⟨hp, g, d, tk, os⟩ :=
      fun q => B.iter prog w _ _ ⟨hp, g, d, tk, os⟩ _ h1 q
    wp_walk using q1
    refine wpAny_stack_any fun st => wpAny_pure ?_
    split
    · rename_i c _ _ _ _ _
      cases (c == Value.type "enumerate")
      · wp_walk using q1
        exact ⟨_, rfl, h⟩
      · wp_walk using q1
        exact ⟨_, rfl, h⟩
    · wp_walk using q1
      exact ⟨_, rfl, h⟩
section
variable {prog : Program} {w : World} {A : Around} {E : Value → Shared → Prop} {s : Shared}
theorem enum_begins1 {v : Value} {o : Obj} {H : Heap → Prop} {Q : Value → Shared → Prop} (B : Begins v o H) (h1 : H s.heap)
    (h : ∀ h', IsEnum h' (s.heap.objs.size + 1) s.heap.objs.size 0 .none → h'.get? s.heap.objs.size = some o → h'.objs.size = s.heap.objs.size + 2 →
      (∀ b o, s.heap.get? b = some o → h'.get? b = some o) → Q (.ref (s.heap.objs.size + 1)) { s with heap := h' }) :
    wpAny (model prog w) A (call (.type "enumerate") [v]) Q E s := by
  refine callType_new F.called_enumerate (by decide) (F.typeCall_enumerate_1 _) (F.newCall_enumerate_1 _) (fun obj => F.args_object_init_2 obj _) F.entry_enumerate_new
    (meets_enum1 B) ⟨h1, ?_⟩
  have hz : (s.heap.push o).objs.size = s.heap.objs.size + 1 := Heap.size_push ..
  show _ ∧ _
  rw [hz]
  have he : IsEnum ((s.heap.push o).push { cls := .type "enumerate", data := .fields #[.none, .bool false, .ref s.heap.objs.size, rawInt 0, .none, .none] }) (s.heap.objs.size + 1) s.heap.objs.size 0 .none := by
    have := Heap.get?_push_size (s.heap.push o) (o := { cls := .type "enumerate", data := .fields #[.none, .bool false, .ref s.heap.objs.size, rawInt 0, .none, .none] }) rfl
    rw [hz] at this; exact this
  refine ⟨⟨_, he, rfl⟩, h _ he (Heap.get?_push_of_some _ (Heap.get?_push_size _ B.free)) (by rw [Heap.size_push, hz]) fun b o x => Heap.get?_push_of_some _ (Heap.get?_push_of_some _ x)⟩
end
/-- the tuple at a, each item in a new pair -/
def IteT (K : PySem.W.Frag) (a : Addr) : It :=
  ⟨fun i H => ∃ (xs : List V) (x : V), SqT K H a xs ∧ xs[i]? = some x, fun i H v H' => ∃ T x, v = .ref T ∧ H T = none ∧ H' = upd H T (.tup [.int (i : Nat), x]) ∧ ∀ xs, SqT K H a xs → xs[i]? = some x, fun i H => ∃ xs : List V, SqT K H a xs ∧ xs.length ≤ i⟩
theorem turn_enumT {P : Program} {w : World} {K : PySem.W.Frag} {elts : List Expr} {kk : Nat} {tpos : Pos} (a e it : Addr) :
    Turn P w K (.Tuple elts kk tpos) (IteT K a) [e, it] e (fun i h => (∃ old, IsEnum h e it ((i : Nat) : Int) old) ∧ h.IsTupleIter it a i ∧ e ≠ it ∧ a ≠ it ∧ a ≠ e) where
  mem := by simp
  obj := fun i h st b hb => by
    obtain ⟨⟨old, he⟩, ⟨o, ho, hc, hd⟩, _⟩ := st
    have e' : b = e ∨ b = it := by simpa using hb
    rcases e' with z | z
    · rw [z]; exact ⟨_, he, fun v q => nomatch q⟩
    · rw [z]; exact ⟨o, ho, fun v q => by rw [hd] at q; cases q⟩
  keep := fun i h h' st k => let ⟨⟨old, he⟩, hi, hne⟩ := st; ⟨⟨old, k e (by simp) _ he⟩, hi.at fun o q => k it (by simp) o q, hne⟩
  item := by
    intro X hP hw hK hc i pins s σ H E I hf st hg
    subst hP hw hK
    obtain ⟨⟨old, he⟩, hit, hne, na, nae⟩ := st
    obtain ⟨xs, x, hq, hx⟩ := hg
    obtain ⟨its, rv, p, hz⟩ := I.tuple hq
    obtain ⟨u, hu, ru⟩ := rv.get hx
    have hel : e < s.heap.objs.size := Heap.lt_size he
    have hil : it < s.heap.objs.size := by obtain ⟨_, q, _⟩ := hit; exact Heap.lt_size q
    have pT : s.heap.IsTuple a its.toArray := by obtain ⟨o, h1, h2, n, h3⟩ := p; exact ⟨o, h1, h2, n, h3⟩
    have D := Draws.tuple (prog := X.prog) (w := X.w) (A := X.A.in1) (I.ok.hd hc) it a na its.toArray
    have hlt : i < its.toArray.size := by
      have := (List.getElem?_eq_some_iff.mp hu).1
      simpa using this
    refine wpAny_pyNext_enum_itemD D he ⟨hit, pT⟩ hlt hne (by simp; exact ⟨hne, fun z => nae z.symm⟩) fun u' h' tk hP' ho hst' hT hsz hk => ?_
    have eu : u' = u := by
      have h1 : its.toArray[i]? = some u' := hP'
      have h2 : its.toArray[i]? = some u := by simpa using hu
      rw [h1] at h2
      exact Option.some.inj h2
    subst eu
    refine ⟨_, rfl, wpAny_letOwnedTupleGo_enum (s := { s with heap := h', toks := tk + 1 }) ho fun h'' he' sb => ?_⟩
    have hT2 : h''.get? s.heap.objs.size = some { cls := .type "tuple", data := .seq #[.int i tk, u'] } := (sb.2 _ (Nat.ne_of_gt hel)).trans hT
    have new : ObjOk X.prog X.w (upd H s.heap.objs.size (.tup [.int (i : Nat), x])) h'' s.heap.objs.size (.tup [.int (i : Nat), x]) :=
      ⟨by show 2 ≤ sizeLine; decide, [.int i tk, u'], .cons ⟨_, rfl⟩ (.cons ru .nil), ⟨_, hT2, rfl, _, rfl⟩⟩
    have I1 : Inv X pins σ (upd H s.heap.objs.size (.tup [.int (i : Nat), x])) { s with heap := h'', toks := tk + 1 } :=
      I.turnedNew (ch := [e, it]) (fun b ob hb q => (sb.2 b (fun z => hb (by simp [z]))).trans (hk b ob (fun z => hb (by simp [z])) (fun z => hb (by simp [z])) q)) hf (Nat.le_refl _) new
    refine ⟨.ref s.heap.objs.size, _, I1, rfl, ⟨_, x, rfl, I.hok.fresh (Nat.le_refl _), rfl, fun ys hy => by rw [I.tuple_inj hy hq]; exact hx⟩, ⟨⟨u', ?_⟩, hst'.1.at fun o q => (sb.2 it (Ne.symm hne)).trans q, hne, na, nae⟩, fun b hb => ?_⟩
    · have e1 : ((i + 1 : Nat) : Int) = (i : Int) + 1 := by omega
      rw [e1]; exact he'
    · have hb' : b < s.heap.objs.size := by
        have e' : b = e ∨ b = it := by simpa using hb
        rcases e' with z | z
        · rw [z]; exact hel
        · rw [z]; exact hil
      rw [upd_ne (Nat.ne_of_lt hb')]
      exact (hf b hb).1
  done := by
    intro X hP hw hK hc i pins s σ H E I hf st hg
    subst hP hw hK
    obtain ⟨⟨old, he⟩, hit, hne, na, nae⟩ := st
    obtain ⟨xs, hq, hx⟩ := hg
    obtain ⟨its, rv, p, hz⟩ := I.tuple hq
    obtain ⟨f0, f1, f2, f3, f4, f5⟩ := hf it (by simp)
    have hl := rv.length
    have pT : s.heap.IsTuple a its.toArray := by obtain ⟨o, h1, h2, n, h3⟩ := p; exact ⟨o, h1, h2, n, h3⟩
    have hT : s.TypeIs (.ref e) "enumerate" := ⟨_, he, rfl⟩
    unfold pyNext
    refine wpAny_bind (wpAny_attempt (wpAny_callSpecial?_slot (name := Str.ofString "__next__") hT F.slot_enumerate_next
      (wpAny_call_entry F.slot_enumerate_next hT F.entry_enumerate_next ?_ (F.args_enumerate_next_1 _))))
    show wpAny _ _ (field (.ref e) 2 >>= _) _ _ _
    refine wpAny_bind (wpAny_field he rfl (x := .ref it) rfl ?_)
    refine wpAny_bind (wpAny_nextOf_tuple_end (I.ok.hd hc) hit pT (by simp; omega) fun h' x he' hx' => ?_)
    obtain ⟨o, ho, hc'⟩ := hx'
    refine wpAny_bind (wpAny_isInstance (T := "StopIteration") (b := true) ⟨o, ho, hc'⟩ isSubtype_stop ?_)
    exact wpAny_pure ⟨rfl, I.turned (t' := s.toks) (fun b o hb q => he' b o hb q) f0 f1 f3 f4 f5⟩
  self := fun A i s Q E st h => let ⟨⟨_, he⟩, _⟩ := st; wpAny_pyIter_enum he h
def iEnumT (K : PySem.W.Frag) (ta : TA) : TI := fun σ H R => ta σ H fun vs H1 => ∃ a xs, vs = [.ref a] ∧ SqT K H1 a xs ∧ R (IteT K a) H1
theorem pi_enumT {X : Cx} {e : Expr} {ta : TA} {p pos tpos : Pos} {elts : List Expr} {kk : Nat} (hg : Gl X "enumerate") (hm : X.mg "enumerate" = none) (ha : PA X [e] ta) (hs : starEach [e] X.env = [(false, eval e X.env)] := by rfl) :
    PI X (.Tuple elts kk tpos) (.Call (.Name "enumerate" p) [e] [] pos) (iEnumT X.K ta) := by
  refine ⟨fun pins s σ H R I h => ?_⟩
  refine Call_ (ld_blt I hg hm boot_enumerate (PyProof.Rows.callWith_type1 (thn (ha.run pos pins s σ H _ I h) fun us s1 ⟨vs, H1, I1, r1, q1⟩ => ?_) hs rfl))
  obtain ⟨a, xs, ex, hq, q⟩ := q1
  subst ex
  cases r1 with
  | cons r rr =>
    cases rr
    cases r
    obtain ⟨its, rv, p', hz⟩ := I1.tuple hq
    have pT : s1.heap.IsTuple a its.toArray := by obtain ⟨o, h1, h2, n, h3⟩ := p'; exact ⟨o, h1, h2, n, h3⟩
    have hal : a < s1.heap.objs.size := p'.lt
    refine enum_begins1 (begins_tuple a its.toArray) pT fun h' he hit hsz hk => wpAny_pyIter_enum he ?_
    have I2 : Inv X pins σ H1 { s1 with heap := h' } := I1.kept (t' := s1.toks) hk
    refine ⟨s1.heap.objs.size + 1, [s1.heap.objs.size + 1, s1.heap.objs.size], _, _, H1, rfl, I2, turn_enumT a (s1.heap.objs.size + 1) s1.heap.objs.size, ⟨⟨.none, he⟩, ⟨_, hit, rfl, rfl⟩, Nat.succ_ne_self _, Nat.ne_of_lt hal, Nat.ne_of_lt (Nat.lt_succ_of_lt hal)⟩, fun b hb => ?_, q⟩
    have e' : b = s1.heap.objs.size + 1 ∨ b = s1.heap.objs.size := by simpa using hb
    have hle : s1.heap.objs.size ≤ b := by
      rcases e' with z | z
      · rw [z]; exact Nat.le_add_right _ _
      · rw [z]; exact Nat.le_refl _
    exact I1.fpOk hle (I1.hok.fresh hle)
theorem fm_congr {α β : Type} {f g : α → Option β} : ∀ l : List α, (∀ x ∈ l, f x = g x) → l.filterMap f = l.filterMap g
  | [], _ => rfl
  | x :: l, h => by rw [List.filterMap_cons, List.filterMap_cons, h x (List.mem_cons_self ..), fm_congr l fun y hy => h y (List.mem_cons_of_mem _ hy)]
/-! ### t[::-1] of a tuple -/
theorem places_rev (n : Nat) : Builtin.Slice.slicePlaces ((n : Int) - 1) (-1) (-1) = n := by
  unfold Builtin.Slice.slicePlaces
  have h1 : ¬ ((-1 : Int) > 0) := by omega
  rw [if_neg h1]
  by_cases h : n = 0
  · subst h; rfl
  · rw [if_pos (by omega)]
    have : ((n : Int) - 1 - -1 - 1) / (- -1) = (n : Int) - 1 := by
      rw [show (- -1 : Int) = 1 from rfl, Int.ediv_one]; omega
    rw [this]; omega
theorem pick_rev (its : List Value) : ((List.range its.length).filterMap fun (k : Nat) => its.toArray[(((its.length : Int) - 1) + (k : Int) * (-1)).toNat]?) = its.reverse := by
  have e : ∀ k, k < its.length → its.toArray[(((its.length : Int) - 1) + (k : Int) * (-1)).toNat]? = its.reverse[k]? := fun k hk => by
    have h1 : ((((its.length : Int) - 1) + (k : Int) * (-1)).toNat) = its.length - 1 - k := by omega
    rw [h1, List.getElem?_toArray, List.getElem?_reverse hk]
  have h2 : ∀ (l : List Value), ((List.range l.length).filterMap fun k => l[k]?) = l := fun l => by
    have : ((List.range l.length).map fun k => l[k]?) = l.map some := by
      refine List.ext_getElem? fun j => ?_
      by_cases hj : j < l.length
      · simp [hj]
      · simp [hj]
    have h3 : (List.range l.length).filterMap (fun k => l[k]?) = ((List.range l.length).map fun k => l[k]?).filterMap id := by rw [List.filterMap_map]; rfl
    rw [h3, this, List.filterMap_map]
    simp
  have h4 : ((List.range its.length).filterMap fun (k : Nat) => its.toArray[(((its.length : Int) - 1) + (k : Int) * (-1)).toNat]?) = ((List.range its.length).filterMap fun k => its.reverse[k]?) := by
    exact fm_congr _ fun k hk => e k (List.mem_range.mp hk)
  rw [h4]
  have := h2 its.reverse
  rw [List.length_reverse] at this
  exact this
theorem getItem_tuple_rev {prog : Program} {w : World} {A : Around} {E : Value → Shared → Prop} {s : Shared} {t sl : Addr} {its : List Value} {vl vu vs : Value} {Q : Value → Shared → Prop} (ht : IsTup s.heap t its.toArray) (hs : s.heap.IsSliceOf sl vl vu vs) (pl : IsPart vl none) (pu : IsPart vu none) (ps : IsPart vs (some (-1)))
    (h : Q (.ref s.heap.objs.size) { s with heap := s.heap.push { cls := .type "tuple", data := .seq its.reverse.toArray } })
    (hsz : its.length ≤ sizeLine) : wpAny (model prog w) A (getItem (.ref t) (.ref sl)) Q E s := by
  have htake : sizeOk (.seq its.reverse.toArray) := by
    show its.reverse.toArray.size ≤ sizeLine
    rw [List.size_toArray, List.length_reverse]
    exact hsz
  obtain ⟨os, hos, hcs, hds⟩ := id hs
  have hTs : s.TypeIs (.ref sl) "slice" := ⟨os, hos, hcs⟩
  unfold getItem
  try with_reducible refine wpAny_holding ?_
  first | refine wpAny_bind (wpAny_pure ?_) | skip
  refine wpAny_bind (wpAny_sequenceKey ht.typeIs (by decide) ?_)
  refine wpAny_bind (wpAny_callSpecial?_slot (name := Str.ofString "__getitem__") ht.typeIs PyProof.Rows.slot_tuple_getitem
    (wpAny_call_entry PyProof.Rows.slot_tuple_getitem ht.typeIs entry_tuple_getitem ?_ (args_tuple_getitem _ _)))
  show wpAny _ _ (Builtin.Tuple.tupleItemsOf (.ref t) >>= _) _ _ s
  refine wpAny_bind (tupleItemsOf_ ht ?_)
  refine wpAny_bind (wpAny_typeOf hTs ?_)
  rw [if_pos (by decide)]
  refine wpAny_bind (m := Builtin.Slice.sliceApplied (.ref sl) (pure ((its.toArray.size : Nat) : Int))) ?_
  unfold Builtin.Slice.sliceApplied Builtin.Slice.sliceFields
  refine wpAny_bind (wpAny_bind (wpAny_field hos hds (x := vl) rfl (wpAny_bind (wpAny_field hos hds (x := vu) rfl (wpAny_bind (wpAny_field hos hds (x := vs) rfl (wpAny_pure ?_)))))))
  refine wpAny_bind (HT.slicePart_ ps ?_)
  show wpAny _ _ (if ((-1 : Int) == 0) = true then _ else _) _ _ s
  rw [if_neg (by decide)]
  refine wpAny_bind (HT.slicePart_ pl (wpAny_bind (HT.slicePart_ pu (wpAny_bind (wpAny_pure ?_)))))
  show wpAny _ _ (pure (((its.toArray.size : Nat) : Int) - 1, (-1 : Int), Builtin.Slice.slicePlaces (((its.toArray.size : Nat) : Int) - 1) (-1) (-1))) _ _ s
  rw [places_rev]
  refine wpAny_pure ?_
  have hno : ¬ (((((its.toArray.size : Nat) : Int) - 1) == 0 && (-1 : Int) == 1 && its.toArray.size == its.toArray.size) = true) := by simp
  show wpAny _ _ (if (((((its.toArray.size : Nat) : Int) - 1) == 0 && (-1 : Int) == 1 && its.toArray.size == its.toArray.size) = true) then _ else _) _ _ s
  rw [if_neg hno]
  have ep : ((List.range its.toArray.size).filterMap fun (k : Nat) => its.toArray[((((its.toArray.size : Nat) : Int) - 1) + (k : Int) * (-1)).toNat]?) = its.reverse := by
    rw [List.size_toArray]; exact pick_rev its
  rw [ep]
  first
    | exact wpAny_bind (m := Builtin.Tuple.tupleExact _) (wpAny_newObj_type (wpAny_pure ⟨_, rfl, wpAny_pure h⟩) htake)
    | exact wpAny_bind (m := Builtin.Tuple.tupleExact _) (wpAny_newObj_type (wpAny_bind (wpAny_pure (wpAny_pure ⟨_, rfl, wpAny_pure h⟩))) htake)
    | exact wpAny_bind (wpAny_bind (m := Builtin.Tuple.tupleExact _) (wpAny_newObj_type (wpAny_pure (wpAny_pure ⟨_, rfl, wpAny_pure h⟩)) htake))
    | exact wpAny_bind (wpAny_bind (m := Builtin.Tuple.tupleExact _) (wpAny_newObj_type (wpAny_pure ⟨_, rfl, wpAny_pure h⟩) htake))
section
variable {X : Cx}
def tRevT (K : PySem.W.Frag) (te : TE) : TE := fun σ H Q => te σ H fun x H1 => ∃ a xs, x = .ref a ∧ SqT K H1 a xs ∧ ∀ p, H1 p = none → Q (.ref p) (upd H1 p (.tup xs.reverse))
theorem pe_revT {e : Expr} {te : TE} {k : Nat} {p1 p2 p3 pos : Pos} (he : PE X e te) : PE X (.Subscript e (.Slice none none (some (.UnaryOp .USub (.Constant (.int 1) k p1) p2)) p3) pos) (tRevT X.K te) := by
  refine ⟨fun pins s σ H Q I h => ?_⟩
  refine Subscript_ (thn (he.run pins s σ H _ I h) fun v s1 ⟨x, H1, I1, r1, q1⟩ => ?_)
  obtain ⟨a, xs, ex, hx, q⟩ := q1
  subst ex
  cases r1
  have hst : PO X (some (.UnaryOp .USub (.Constant (.int 1) k p1) p2)) (tPart (tUn (rU fun i => .int (-i)) (tC (.int 1)))) := po_some (pe_un un_neg pe_int)
  refine wpAny_Slice (thn (po_none.run pins s1 σ H1 (fun o H2 => o = none ∧ H2 = H1) I1 ⟨rfl, rfl⟩) fun vl s2 ⟨l, H2, I2, pl, el, e2⟩ => ?_)
  subst el e2
  refine thn (po_none.run pins s2 σ H2 (fun o H3 => o = none ∧ H3 = H2) I2 ⟨rfl, rfl⟩) fun vu s3 ⟨u, H3, I3, pu, eu, e3⟩ => ?_
  subst eu e3
  refine thn (hst.run pins s3 σ H3 (fun o H4 => o = some (-1) ∧ H4 = H3) I3 ⟨1, rfl, -1, rfl, rfl, rfl⟩) fun vs s4 ⟨o, H4, I4, ps, eo, e4⟩ => ?_
  subst eo e4
  have I5 : Inv X pins σ H4 { s4 with heap := s4.heap.push { cls := .type "slice", data := .fields #[vl, vu, vs] } } := I4.kept (t' := s4.toks) fun b ob q => Heap.get?_push_of_some _ q
  obtain ⟨its, r, ht, hz⟩ := I5.tuple hx
  have hlen := r.length
  show wpAny (model X.prog X.w) X.A (subscriptTail e (.Slice none none (some (.UnaryOp .USub (.Constant (.int 1) k p1) p2)) p3) (.ref a) (.ref s4.heap.objs.size)) (EP X pins σ Q) X.xe { s4 with heap := s4.heap.push { cls := .type "slice", data := .fields #[vl, vu, vs] } }
  refine tail_any (ops := [.ref a, .ref s4.heap.objs.size]) ht.typeIs (PyProof.Rows.slot_tuple_getitem.lookup) ?_ (by with_unfolding_all rfl)
  refine getItem_tuple_rev ht (Heap.IsSliceOf.new _ vl vu vs) pl pu ps ?_ (by omega)
  refine ⟨.ref _, _, I5.laid (t' := s4.toks) (o := .tup xs.reverse) (fun b ob q => Heap.get?_push_of_some _ q) (Nat.le_refl _) ?_, rfl, q _ (I5.hok.fresh (Nat.le_refl _))⟩
  exact ⟨by rw [List.length_reverse]; exact hz, _, r.reverse, ⟨_, Heap.get?_push_size _ rfl, rfl, _, rfl⟩⟩
end
end Bc
set_option Elab.async false
set_option linter.all false
set_option maxRecDepth 100000
set_option maxHeartbeats 4000000
namespace Bc
open PySem PySem.Spec PyProof.Rows L2
/-! ### curves as terms -/
inductive Kd where
  | sum | times | max | min | into
  deriving DecidableEq
def Kd.s : Kd → Str
  | .sum => "sum"
  | .times => "times"
  | .max => "max"
  | .min => "min"
  | .into => "into"
inductive Cv where
  | num (n : Int) | x | abs (a : Cv) | bin (k : Kd) (a b : Cv)
  deriving DecidableEq
def Cv.d : Cv → PyData
  | .num n => .tuple [.str "num", .int n]
  | .x => .tuple [.str "x"]
  | .abs a => .tuple [.str "abs", a.d]
  | .bin k a b => .tuple [.str k.s, a.d, b.d]
def Cv.depth : Cv → Nat
  | .num _ => 1
  | .x => 1
  | .abs a => a.depth + 1
  | .bin _ a b => max a.depth b.depth + 1
def Cv.size : Cv → Nat
  | .num _ => 1
  | .x => 1
  | .abs a => 1 + a.size
  | .bin _ a b => 1 + (a.size + b.size)
def Cv.deg : Cv → Nat
  | .num _ => 0
  | .x => 1
  | .abs a => a.deg
  | .bin .times a b => a.deg + b.deg
  | .bin .into a b => a.deg * b.deg
  | .bin _ a b => max a.deg b.deg
def Cv.high : Cv → Nat
  | .num n => (Cv.num n).deg
  | .x => Cv.x.deg
  | .abs a => max (Cv.abs a).deg a.high
  | .bin k a b => max (Cv.bin k a b).deg (max a.high b.high)
def Cv.in9 : Cv → Bool
  | .num n => decide (-9 ≤ n) && decide (n ≤ 9)
  | .x => true
  | .abs a => a.in9
  | .bin _ a b => a.in9 && b.in9
def Cv.args : Cv → List Cv
  | .num _ => []
  | .x => []
  | .abs a => [a]
  | .bin _ a b => [a, b]
def kdOf (k : Str) : Option Kd := if k = "sum" then some .sum else if k = "times" then some .times else if k = "max" then some .max else if k = "min" then some .min else if k = "into" then some .into else none
theorem kdOf_s (k : Kd) : kdOf k.s = some k := by cases k <;> decide +kernel
theorem kdOf_eq {k : Str} {q : Kd} (h : kdOf k = some q) : k = q.s := by
  unfold kdOf at h
  split at h
  · cases h; assumption
  · split at h
    · cases h; assumption
    · split at h
      · cases h; assumption
      · split at h
        · cases h; assumption
        · split at h
          · cases h; assumption
          · cases h
def cvOf : Nat → PyData → Option Cv
  | 0, _ => none
  | n + 1, .tuple (.str k :: r) =>
    if k = "num" then (match r with
      | [.int i] => if (decide (-9 ≤ i) && decide (i ≤ 9)) = true then some (.num i) else none
      | _ => none)
    else if k = "x" then (match r with
      | [] => some .x
      | _ => none)
    else if k = "abs" then (match r with
      | [a] => (cvOf n a).map .abs
      | _ => none)
    else match kdOf k with
      | some q => (match r with
        | [a, b] => (match cvOf n a, cvOf n b with
          | some x, some y => some (.bin q x y)
          | _, _ => none)
        | _ => none)
      | none => none
  | _, _ => none
theorem cvOf_d : ∀ {n : Nat} {d : PyData} {c : Cv}, cvOf n d = some c → d = c.d ∧ c.depth ≤ n ∧ c.in9 = true
  | 0, _, _, h => by cases h
  | n + 1, d, c, h => by
    unfold cvOf at h
    split at h
    · cases ‹_ = 0›
    · rename_i n' k r e
      cases e
      split at h
      · rename_i hk
        subst hk
        split at h
        · split at h
          · rename_i h9
            cases h
            exact ⟨rfl, Nat.le_add_left _ _, h9⟩
          · cases h
        · cases h
      · split at h
        · rename_i hk
          subst hk
          split at h
          · cases h
            exact ⟨rfl, Nat.le_add_left _ _, rfl⟩
          · cases h
        · split at h
          · rename_i hk
            subst hk
            split at h
            · rename_i a
              cases e : cvOf n a with
              | none => rw [e] at h; cases h
              | some x =>
                rw [e] at h
                cases h
                obtain ⟨h1, h2, h3⟩ := cvOf_d e
                exact ⟨by rw [h1]; rfl, Nat.succ_le_succ h2, h3⟩
            · cases h
          · split at h
            · rename_i q hq
              split at h
              · rename_i a b
                split at h
                · rename_i x y e1 e2
                  cases h
                  obtain ⟨h1, h2, h3⟩ := cvOf_d e1
                  obtain ⟨g1, g2, g3⟩ := cvOf_d e2
                  refine ⟨by rw [h1, g1, kdOf_eq hq]; rfl, Nat.succ_le_succ (Nat.max_le.mpr ⟨h2, g2⟩), ?_⟩
                  show (x.in9 && y.in9) = true
                  rw [h3, g3] <;> rfl
                · cases h
              · cases h
            · cases h
    · cases h
theorem Kd.ne (k : Kd) : ¬ k.s = "num" ∧ ¬ k.s = "x" ∧ ¬ k.s = "abs" := by cases k <;> decide +kernel
theorem nx : ¬ (("x" : Str) = "num") := by decide +kernel
theorem nabs : ¬ (("abs" : Str) = "num") ∧ ¬ (("abs" : Str) = "x") := by decide +kernel
theorem d_cvOf : ∀ {n : Nat} {c : Cv}, c.depth ≤ n → c.in9 = true → cvOf n c.d = some c
  | 0, c, h, _ => by cases c <;> simp [Cv.depth] at h
  | n + 1, .num i, h, h9 => by
    show (if ("num" : Str) = "num" then (if (decide (-9 ≤ i) && decide (i ≤ 9)) = true then some (Cv.num i) else none) else _) = _
    rw [if_pos rfl, if_pos (show (decide (-9 ≤ i) && decide (i ≤ 9)) = true from h9)]
  | n + 1, .x, h, h9 => by
    show (if ("x" : Str) = "num" then _ else if ("x" : Str) = "x" then some Cv.x else _) = _
    rw [if_neg nx, if_pos rfl]
  | n + 1, .abs a, h, h9 => by
    show (if ("abs" : Str) = "num" then _ else if ("abs" : Str) = "x" then _ else if ("abs" : Str) = "abs" then (cvOf n a.d).map Cv.abs else _) = _
    rw [if_neg nabs.1, if_neg nabs.2, if_pos rfl, d_cvOf (Nat.le_of_succ_le_succ h) h9] <;> rfl
  | n + 1, .bin k a b, h, h9 => by
    have h9' : (a.in9 && b.in9) = true := h9
    rw [Bool.and_eq_true] at h9'
    have hd : max a.depth b.depth + 1 ≤ n + 1 := h
    have h1 : a.depth ≤ n := Nat.le_trans (Nat.le_max_left _ _) (Nat.le_of_succ_le_succ hd)
    have h2 : b.depth ≤ n := Nat.le_trans (Nat.le_max_right _ _) (Nat.le_of_succ_le_succ hd)
    show (if k.s = "num" then _ else if k.s = "x" then _ else if k.s = "abs" then _ else match kdOf k.s with
      | some q => (match cvOf n a.d, cvOf n b.d with
          | some x, some y => some (Cv.bin q x y)
          | _, _ => none)
      | none => none) = _
    rw [if_neg k.ne.1, if_neg k.ne.2.1, if_neg k.ne.2.2, kdOf_s, d_cvOf h1 h9'.1, d_cvOf h2 h9'.2]
/-- is it a curve -/
def Cv.ok (c : Cv) : Bool := decide (c.size ≤ 15) && decide (c.high ≤ 6)
def isCurveM (d : PyData) : Bool := match cvOf 15 d with
  | some c => c.ok
  | none => false
theorem Cv.depth_size (c : Cv) : c.depth ≤ c.size := by
  induction c with
  | num n => exact Nat.le_refl _
  | x => exact Nat.le_refl _
  | abs a ih => show a.depth + 1 ≤ 1 + a.size; omega
  | bin k a b ih1 ih2 => show max a.depth b.depth + 1 ≤ 1 + (a.size + b.size); omega
theorem Kd.s_inj : ∀ {a b : Kd}, a.s = b.s → a = b := by
  intro a b h
  have := kdOf_s a
  rw [h, kdOf_s b] at this
  exact (Option.some.inj this).symm
theorem Cv.d_inj : ∀ {a b : Cv}, a.d = b.d → a = b
  | .num n, .num m, h => by
    simp only [Cv.d, PyData.tuple.injEq, List.cons.injEq, PyData.int.injEq] at h
    rw [h.2.1]
  | .num n, .x, h => by simp [Cv.d] at h
  | .num n, .abs a, h => by
    simp only [Cv.d, PyData.tuple.injEq, List.cons.injEq, PyData.str.injEq] at h
    exact absurd h.1.symm nabs.1
  | .num n, .bin k a b, h => by simp [Cv.d] at h
  | .x, .num n, h => by simp [Cv.d] at h
  | .x, .x, h => rfl
  | .x, .abs a, h => by simp [Cv.d] at h
  | .x, .bin k a b, h => by simp [Cv.d] at h
  | .abs a, .num n, h => by
    simp only [Cv.d, PyData.tuple.injEq, List.cons.injEq, PyData.str.injEq] at h
    exact absurd h.1 nabs.1
  | .abs a, .x, h => by simp [Cv.d] at h
  | .abs a, .abs b, h => by
    simp only [Cv.d, PyData.tuple.injEq, List.cons.injEq] at h
    rw [Cv.d_inj h.2.1]
  | .abs a, .bin k b c, h => by simp [Cv.d] at h
  | .bin k a b, .num n, h => by simp [Cv.d] at h
  | .bin k a b, .x, h => by simp [Cv.d] at h
  | .bin k a b, .abs c, h => by simp [Cv.d] at h
  | .bin k a b, .bin q c e, h => by
    simp only [Cv.d, PyData.tuple.injEq, List.cons.injEq, PyData.str.injEq] at h
    rw [Kd.s_inj h.1, Cv.d_inj h.2.1, Cv.d_inj h.2.2.1]
theorem isCurveM_d {c : Cv} (h9 : c.in9 = true) : isCurveM c.d = c.ok := by
  unfold isCurveM
  by_cases hd : c.depth ≤ 15
  · rw [d_cvOf hd h9]
  · have e : cvOf 15 c.d = none := by
      cases e : cvOf 15 c.d with
      | none => rfl
      | some c' =>
        exfalso
        obtain ⟨h1, h2, h3⟩ := cvOf_d e
        rw [Cv.d_inj h1] at hd
        exact hd h2
    rw [e]
    have := c.depth_size
    show false = (decide (c.size ≤ 15) && decide (c.high ≤ 6))
    rw [decide_eq_false (by omega), Bool.false_and]
end Bc
set_option Elab.async false
set_option linter.all false
set_option maxRecDepth 100000
set_option maxHeartbeats 4000000
/-! the mirror of rows.py: plain functions over lists of integers -/
namespace Bc
def trimM : List Int → List Int
  | [] => []
  | a :: r => match trimM r with
    | [] => if a = 0 then [] else [a]
    | b :: s => a :: b :: s
theorem trimM_snoc0 : ∀ l : List Int, trimM (l ++ [0]) = trimM l
  | [] => rfl
  | a :: r => by
    show (match trimM (r ++ [0]) with
      | [] => if a = 0 then [] else [a]
      | b :: s => a :: b :: s) = trimM (a :: r)
    rw [trimM_snoc0 r]
    rfl
theorem trimM_snoc {x : Int} (hx : x ≠ 0) : ∀ l : List Int, trimM (l ++ [x]) = l ++ [x]
  | [] => by
    show (if x = 0 then [] else [x]) = [x]
    rw [if_neg hx]
  | a :: r => by
    show (match trimM (r ++ [x]) with
      | [] => if a = 0 then [] else [a]
      | b :: s => a :: b :: s) = a :: (r ++ [x])
    rw [trimM_snoc hx r]
    cases r <;> rfl
theorem trimM_length (l : List Int) : (trimM l).length ≤ l.length := by
  induction l with
  | nil => exact Nat.le_refl _
  | cons a r ih =>
    show (match trimM r with
      | [] => if a = 0 then [] else [a]
      | b :: s => a :: b :: s).length ≤ r.length + 1
    cases e : trimM r with
    | nil =>
      simp only
      split
      · exact Nat.zero_le _
      · show 1 ≤ r.length + 1; omega
    | cons b s =>
      rw [e] at ih
      exact Nat.succ_le_succ ih
theorem trimM_mem {l : List Int} {x : Int} (h : x ∈ trimM l) : x ∈ l := by
  induction l with
  | nil => exact h
  | cons a r ih =>
    have h : x ∈ (match trimM r with
      | [] => if a = 0 then [] else [a]
      | b :: s => a :: b :: s) := h
    cases e : trimM r with
    | nil =>
      rw [e] at h
      simp only at h
      split at h
      · cases h
      · rw [List.mem_singleton.mp h]; exact List.mem_cons_self ..
    | cons b s =>
      rw [e] at h ih
      rcases List.mem_cons.mp h with rfl | h
      · exact List.mem_cons_self ..
      · exact List.mem_cons_of_mem _ (ih h)
/-- the last number, 0 of none -/
def lastM : List Int → Int
  | [] => 0
  | [a] => a
  | _ :: b :: r => lastM (b :: r)
theorem lastM_snoc (l : List Int) (x : Int) : lastM (l ++ [x]) = x := by
  induction l with
  | nil => rfl
  | cons a r ih =>
    cases r with
    | nil => rfl
    | cons b s => exact ih
theorem eq_snoc : ∀ {l : List Int}, l ≠ [] → ∃ r, l = r ++ [lastM l]
  | [a], _ => ⟨[], rfl⟩
  | a :: b :: s, _ => by
    obtain ⟨r, e⟩ := eq_snoc (l := b :: s) (by simp)
    exact ⟨a :: r, by
      have : lastM (a :: b :: s) = lastM (b :: s) := rfl
      rw [this, List.cons_append, ← e]⟩
theorem trimM_last {l : List Int} (h : trimM l ≠ []) : lastM (trimM l) ≠ 0 := by
  induction l with
  | nil => exact absurd rfl h
  | cons a r ih =>
    have e0 : trimM (a :: r) = (match trimM r with
      | [] => if a = 0 then [] else [a]
      | b :: s => a :: b :: s) := rfl
    cases e : trimM r with
    | nil =>
      rw [e] at e0
      simp only at e0
      rw [e0] at h ⊢
      by_cases ha : a = 0
      · rw [if_pos ha] at h; exact absurd rfl h
      · rw [if_neg ha]; exact ha
    | cons b s =>
      rw [e] at e0 ih
      rw [e0]
      exact ih (by simp)
/-! sums -/
def addL (a b : List Int) (k : Int) : List Int := (List.range (max a.length b.length)).map fun i => a.getD i 0 + k * b.getD i 0
def rowSumM (a b : List Int) (k : Int) : List Int := trimM (addL a b k)
/-! products -/
def addAt (l : List Int) (i : Nat) (x : Int) : List Int := l.set i (l.getD i 0 + x)
def mulRow (i : Nat) (x : Int) : List Int → Nat → List Int → List Int
  | acc, _, [] => acc
  | acc, j, y :: ys => mulRow i x (addAt acc (i + j) (x * y)) (j + 1) ys
def mulAll (b : List Int) : List Int → Nat → List Int → List Int
  | acc, _, [] => acc
  | acc, i, x :: xs => mulAll b (mulRow i x acc 0 b) (i + 1) xs
def mulL (a b : List Int) : List Int := mulAll b (List.replicate (a.length + b.length - 1) 0) 0 a
def mulM (a b : List Int) : List Int := match a, b with
  | [], _ => []
  | _ :: _, [] => []
  | x :: a, y :: b => trimM (mulL (x :: a) (y :: b))
theorem addAt_length (l : List Int) (i : Nat) (x : Int) : (addAt l i x).length = l.length := List.length_set ..
theorem mulRow_length (i : Nat) (x : Int) : ∀ (acc : List Int) (j : Nat) (b : List Int), (mulRow i x acc j b).length = acc.length
  | _, _, [] => rfl
  | acc, j, y :: ys => by
    show (mulRow i x (addAt acc (i + j) (x * y)) (j + 1) ys).length = _
    rw [mulRow_length i x _ _ ys, addAt_length]
theorem mulAll_length (b : List Int) : ∀ (acc : List Int) (i : Nat) (a : List Int), (mulAll b acc i a).length = acc.length
  | _, _, [] => rfl
  | acc, i, x :: xs => by
    show (mulAll b (mulRow i x acc 0 b) (i + 1) xs).length = _
    rw [mulAll_length b _ _ xs, mulRow_length]
def subAt (lead : Int) (shift : Nat) : List Int → Nat → List Int → List Int
  | one, _, [] => one
  | one, at_, part :: rest => subAt lead shift (addAt one (at_ + shift) (-(lead * part))) (at_ + 1) rest
theorem mulRow_snoc (i : Nat) (x y : Int) : ∀ (acc : List Int) (j : Nat) (l : List Int), mulRow i x acc j (l ++ [y]) = addAt (mulRow i x acc j l) (i + (j + l.length)) (x * y)
  | _, _, [] => rfl
  | acc, j, z :: l => by
    show mulRow i x (addAt acc (i + j) (x * z)) (j + 1) (l ++ [y]) = addAt (mulRow i x (addAt acc (i + j) (x * z)) (j + 1) l) (i + (j + (l.length + 1))) (x * y)
    rw [mulRow_snoc i x y _ _ l]
    rw [show j + 1 + l.length = j + (l.length + 1) from by omega]
theorem mulAll_snoc (b : List Int) (x : Int) : ∀ (acc : List Int) (j : Nat) (l : List Int), mulAll b acc j (l ++ [x]) = mulRow (j + l.length) x (mulAll b acc j l) 0 b
  | _, _, [] => rfl
  | acc, j, z :: l => by
    show mulAll b (mulRow j z acc 0 b) (j + 1) (l ++ [x]) = mulRow (j + (l.length + 1)) x (mulAll b (mulRow j z acc 0 b) (j + 1) l) 0 b
    rw [mulAll_snoc b x _ _ l]
    rw [show j + 1 + l.length = j + (l.length + 1) from by omega]
theorem subAt_snoc (lead : Int) (shift : Nat) (y : Int) : ∀ (one : List Int) (j : Nat) (l : List Int), subAt lead shift one j (l ++ [y]) = addAt (subAt lead shift one j l) (j + l.length + shift) (-(lead * y))
  | _, _, [] => rfl
  | one, j, z :: l => by
    show subAt lead shift (addAt one (j + shift) (-(lead * z))) (j + 1) (l ++ [y]) = addAt (subAt lead shift (addAt one (j + shift) (-(lead * z))) (j + 1) l) (j + (l.length + 1) + shift) (-(lead * y))
    rw [subAt_snoc lead shift y _ _ l]
    rw [show j + 1 + l.length = j + (l.length + 1) from by omega]
theorem take_succ' {l : List Int} {i : Nat} {x : Int} (h : l[i]? = some x) : l.take (i + 1) = l.take i ++ [x] := by
  rw [List.take_succ, h]
  rfl
/-- a row of at most sixty numbers of some thousand bits -/
def RowOk (a : List Int) : Prop := a.length ≤ 60 ∧ ∀ x ∈ a, Bd 4000 x
def rowOk (a : List Int) : Bool := Nat.ble a.length 60 && a.all fun x => Nat.blt x.natAbs.log2 4000
theorem rowOk_ok {a : List Int} (h : rowOk a = true) : RowOk a := by
  unfold rowOk at h
  rw [Bool.and_eq_true] at h
  exact ⟨Nat.le_of_ble_eq_true h.1, fun x hx => Bd.of_log2 (Nat.blt_eq.mp (List.all_eq_true.mp h.2 x hx))⟩
/-! put in -/
def putInM (other : List Int) : List Int → List Int → Option (List Int)
  | found, [] => some found
  | found, part :: rest => if rowOk found = true then putInM other (rowSumM (mulM found other) [part] 1) rest else none
/-! content, primitive -/
def contentM (l : List Int) : Nat := l.foldl (fun (g : Nat) (x : Int) => Int.gcd (g : Int) x) 0
def divAll (c : Int) (l : List Int) : List Int := l.map fun x => x.fdiv c
def primM (l : List Int) : List Int := match l with
  | [] => []
  | a :: r => divAll (if lastM (a :: r) > 0 then (contentM (a :: r) : Int) else -(contentM (a :: r) : Int)) (a :: r)
/-! rest -/
def restStep (one other : List Int) : List Int := trimM (subAt (lastM one) (one.length - other.length) (one.map (· * lastM other)) 0 other)
def restM (other : List Int) : Nat → List Int → List Int
  | 0, one => one
  | n + 1, one => if other.length ≤ one.length then restM other n (restStep one other) else one
def rowRestM (one other : List Int) : List Int := restM other one.length one
theorem subAt_length (lead : Int) (shift : Nat) : ∀ (one : List Int) (j : Nat) (o : List Int), (subAt lead shift one j o).length = one.length
  | _, _, [] => rfl
  | one, j, x :: r => by
    show (subAt lead shift (addAt one (j + shift) (-(lead * x))) (j + 1) r).length = _
    rw [subAt_length lead shift _ _ r, addAt_length]
theorem addAt_getD {l : List Int} {i j : Nat} {x : Int} (h : i ≠ j) : (addAt l i x).getD j 0 = l.getD j 0 := by
  unfold addAt
  rw [List.getD_eq_getElem?_getD, List.getElem?_set_ne h, ← List.getD_eq_getElem?_getD]
theorem addAt_getD_same {l : List Int} {i : Nat} {x : Int} (h : i < l.length) : (addAt l i x).getD i 0 = l.getD i 0 + x := by
  unfold addAt
  rw [List.getD_eq_getElem?_getD, List.getElem?_set_self h]
  rfl
theorem subAt_above (lead : Int) (shift : Nat) : ∀ (one : List Int) (j : Nat) (o : List Int) (i : Nat), j + o.length + shift ≤ i → (subAt lead shift one j o).getD i 0 = one.getD i 0
  | _, _, [], _, _ => rfl
  | one, j, x :: r, i, h => by
    have h : j + (r.length + 1) + shift ≤ i := h
    show (subAt lead shift (addAt one (j + shift) (-(lead * x))) (j + 1) r).getD i 0 = _
    rw [subAt_above lead shift _ _ r i (by omega), addAt_getD (by omega)]
theorem subAt_last (lead : Int) (shift : Nat) (z : Int) : ∀ (one : List Int) (j : Nat) (o : List Int), j + o.length + shift < one.length → (subAt lead shift one j (o ++ [z])).getD (j + o.length + shift) 0 = one.getD (j + o.length + shift) 0 - lead * z
  | one, j, [], h => by
    show (addAt one (j + shift) (-(lead * z))).getD (j + 0 + shift) 0 = _
    rw [Nat.add_zero, addAt_getD_same (by simpa using h)]
    rfl
  | one, j, x :: r, h => by
    have h : j + (r.length + 1) + shift < one.length := h
    show (subAt lead shift (addAt one (j + shift) (-(lead * x))) (j + 1) (r ++ [z])).getD (j + (r.length + 1) + shift) 0 = one.getD (j + (r.length + 1) + shift) 0 - lead * z
    have := subAt_last lead shift z (addAt one (j + shift) (-(lead * x))) (j + 1) r (by rw [addAt_length]; omega)
    rw [show j + 1 + r.length + shift = j + (r.length + 1) + shift from by omega] at this
    rw [this, addAt_getD (by omega)]
theorem getD_last {l : List Int} (h : l ≠ []) : l.getD (l.length - 1) 0 = lastM l := by
  obtain ⟨r, e⟩ := eq_snoc h
  rw [e, lastM_snoc, List.length_append]
  simp
theorem snoc_of {l : List Int} (h : l ≠ []) : ∃ r, l = r ++ [lastM l] := eq_snoc h
/-- a list that ends with 0 loses it -/
theorem trimM_lt {l : List Int} (h : l ≠ []) (h0 : l.getD (l.length - 1) 0 = 0) : (trimM l).length < l.length := by
  obtain ⟨r, e⟩ := eq_snoc h
  have e0 : lastM l = 0 := by rw [← getD_last h]; exact h0
  rw [e, e0, trimM_snoc0, List.length_append]
  exact Nat.lt_succ_of_le (trimM_length r)
theorem lastM_map {f : Int → Int} {l : List Int} (h : l ≠ []) : lastM (l.map f) = f (lastM l) := by
  obtain ⟨r, e⟩ := eq_snoc h
  rw [e, List.map_append, lastM_snoc]
  show lastM (r.map f ++ [f (lastM l)]) = _
  rw [lastM_snoc]
theorem restStep_lt {one other : List Int} (h0 : other ≠ []) (h : other.length ≤ one.length) : (restStep one other).length < one.length := by
  have hp : 0 < other.length := List.length_pos_iff.mpr h0
  have hne : one ≠ [] := fun z => by rw [z] at h; simp at h; exact h0 h
  obtain ⟨o, e⟩ := eq_snoc h0
  have ho : o.length + 1 = other.length := by rw [e]; simp
  have hl : (subAt (lastM one) (one.length - other.length) (one.map (· * lastM other)) 0 other).length = one.length := by rw [subAt_length, List.length_map]
  unfold restStep
  have := trimM_lt (l := subAt (lastM one) (one.length - other.length) (one.map (· * lastM other)) 0 other) (fun z => by rw [z] at hl; exact hne (List.length_eq_zero_iff.mp hl.symm)) (by
    rw [hl]
    have k := subAt_last (lastM one) (one.length - other.length) (lastM other) (one.map (· * lastM other)) 0 o (by rw [List.length_map]; omega)
    rw [← e] at k
    have ei : 0 + o.length + (one.length - other.length) = one.length - 1 := by omega
    rw [ei] at k
    rw [k]
    have hm : one.map (· * lastM other) ≠ [] := fun z => hne (List.map_eq_nil_iff.mp z)
    have k2 := getD_last hm
    rw [List.length_map, lastM_map hne] at k2
    rw [k2]
    omega)
  rw [hl] at this
  exact this
/-- what stands where behind the subtractions -/
theorem subAt_getD (lead : Int) (shift : Nat) : ∀ (one : List Int) (j : Nat) (o : List Int) (i : Nat), i < one.length → (subAt lead shift one j o).getD i 0 = one.getD i 0 - (if j + shift ≤ i then lead * o.getD (i - (j + shift)) 0 else 0)
  | one, j, [], i, h => by
    show one.getD i 0 = one.getD i 0 - (if j + shift ≤ i then lead * ([] : List Int).getD (i - (j + shift)) 0 else 0)
    have : ([] : List Int).getD (i - (j + shift)) 0 = 0 := by simp
    rw [this, Int.mul_zero]
    simp
  | one, j, x :: r, i, h => by
    show (subAt lead shift (addAt one (j + shift) (-(lead * x))) (j + 1) r).getD i 0 = _
    rw [subAt_getD lead shift _ _ r i (by rw [addAt_length]; exact h)]
    by_cases h1 : i = j + shift
    · subst h1
      rw [addAt_getD_same h, if_neg (by omega), if_pos (by omega), Nat.sub_self]
      simp
      omega
    · rw [addAt_getD (fun z => h1 z.symm)]
      by_cases h2 : j + shift ≤ i
      · rw [if_pos (by omega), if_pos h2]
        have e : i - (j + shift) = (i - (j + 1 + shift)) + 1 := by omega
        rw [e]
        simp
      · rw [if_neg (by omega), if_neg h2]
theorem getD_bd {n : Nat} {l : List Int} (h : ∀ x ∈ l, Bd n x) (i : Nat) : Bd n (l.getD i 0) := by
  by_cases hi : i < l.length
  · have : l[i]? = some (l.getD i 0) := by simp [List.getD_eq_getElem?_getD, hi]
    exact h _ (List.mem_of_getElem? this)
  · have : l.getD i 0 = 0 := by simp [List.getD_eq_getElem?_getD, List.getElem?_eq_none (show l.length ≤ i by omega)]
    rw [this]
    exact Nat.pow_pos (by decide)
theorem mem_getD {l : List Int} {x : Int} (h : x ∈ l) : ∃ i, i < l.length ∧ x = l.getD i 0 := by
  obtain ⟨i, hi, e⟩ := List.mem_iff_getElem.mp h
  exact ⟨i, hi, by simp [List.getD_eq_getElem?_getD, hi, e]⟩
theorem Bd.sub {n m : Nat} {i j : Int} (h : Bd n i) (k : Bd n j) (l : n + 1 ≤ m) : Bd m (i - j) := by
  rw [Int.sub_eq_add_neg]
  exact h.add k.neg l
theorem bd_zero (n : Nat) : Bd n 0 := Nat.pow_pos (by decide)
theorem subAt_bd {n m k : Nat} {lead : Int} {shift : Nat} {one o : List Int} {j : Nat} (h1 : ∀ x ∈ one, Bd k x) (hl : Bd n lead) (h2 : ∀ y ∈ o, Bd m y) (hk : n + m ≤ k) : ∀ x ∈ subAt lead shift one j o, Bd (k + 1) x := by
  intro x hx
  obtain ⟨i, hi, e⟩ := mem_getD hx
  rw [subAt_length] at hi
  rw [e, subAt_getD _ _ _ _ _ _ hi]
  refine Bd.sub (getD_bd h1 i) ?_ (Nat.le_refl _)
  split
  · exact Bd.mono (hl.mul (getD_bd h2 _)) hk
  · exact bd_zero _
theorem last_bd {n : Nat} {l : List Int} (h : ∀ x ∈ l, Bd n x) : Bd n (lastM l) := by
  by_cases h0 : l = []
  · subst h0; exact bd_zero _
  · rw [← getD_last h0]; exact getD_bd h _
theorem restStep_bd {n : Nat} {one other : List Int} (h1 : ∀ x ∈ one, Bd n x) (h2 : ∀ y ∈ other, Bd 4000 y) : ∀ x ∈ restStep one other, Bd (n + 4001) x := by
  intro x hx
  refine subAt_bd (n := n) (m := 4000) (k := n + 4000) (fun y hy => ?_) (last_bd h1) h2 (Nat.le_refl _) x (trimM_mem hx)
  obtain ⟨z, hz, rfl⟩ := List.mem_map.mp hy
  exact (h1 z hz).mul (last_bd h2)
theorem fdiv_le (a b : Int) (h : b ≠ 0) : (a.fdiv b).natAbs ≤ a.natAbs := by
  have key : ∀ a b : Int, 0 < b → (a.fdiv b).natAbs ≤ a.natAbs := fun a b hb => by
    rw [Int.fdiv_eq_ediv_of_nonneg _ (by omega)]
    exact Int.natAbs_ediv_le_natAbs a b
  by_cases hb : 0 < b
  · exact key a b hb
  · have := key (-a) (-b) (by omega)
    rw [Int.neg_fdiv_neg, Int.natAbs_neg] at this
    exact this
theorem mulM_length (a b : List Int) : (mulM a b).length ≤ a.length + b.length := by
  cases a with
  | nil => exact Nat.zero_le _
  | cons x a => cases b with
    | nil => exact Nat.zero_le _
    | cons y b =>
      refine Nat.le_trans (trimM_length _) ?_
      unfold mulL
      rw [mulAll_length, List.length_replicate]
      omega
/-! gcd of rows -/
def primOk (l : List Int) : Bool := l.isEmpty || (Nat.blt 0 (contentM l) && Nat.blt (contentM l).log2 9000)
def gcdLoop : Nat → List Int → List Int → Option (List Int)
  | 0, _, _ => none
  | n + 1, one, other => match other with
    | [] => some one
    | a :: r => if (rowOk one && rowOk (a :: r) && primOk (rowRestM one (a :: r))) = true then gcdLoop n (a :: r) (primM (rowRestM one (a :: r))) else none
def gcdM (one other : List Int) : Option (List Int) := if (primOk one && primOk other) = true then gcdLoop 100 (primM one) (primM other) else none
/-! quotient -/
def quotStep (q : Int) (shift : Nat) (one other : List Int) : List Int := trimM (subAt q shift one 0 other)
def quotLoop (other : List Int) : Nat → List Int → List Int → Option (List Int)
  | 0, _, _ => none
  | n + 1, one, found => match one with
    | [] => some (trimM found)
    | a :: r => if (Nat.ble other.length (a :: r).length && Nat.blt ((a :: r).length - other.length) found.length && ((a :: r).all fun x => Nat.blt x.natAbs.log2 1000000)) = true then
        quotLoop other n (quotStep ((lastM (a :: r)).fdiv (lastM other)) ((a :: r).length - other.length) (a :: r) other) (found.set ((a :: r).length - other.length) ((lastM (a :: r)).fdiv (lastM other)))
      else none
def quotM (one other : List Int) : Option (List Int) := quotLoop other 100 one (List.replicate (one.length + 1 - other.length) 0)
theorem quotLoop_length {b : List Int} : ∀ {m : Nat} {one found r : List Int}, quotLoop b m one found = some r → r.length ≤ found.length
  | 0, _, _, _, h => by cases h
  | m + 1, [], found, r, h => by
    have h : some (trimM found) = some r := h
    cases h
    exact trimM_length _
  | m + 1, a :: s, found, r, h => by
    have h : (if (Nat.ble b.length (a :: s).length && Nat.blt ((a :: s).length - b.length) found.length && ((a :: s).all fun x => Nat.blt x.natAbs.log2 1000000)) = true then
        quotLoop b m (quotStep ((lastM (a :: s)).fdiv (lastM b)) ((a :: s).length - b.length) (a :: s) b) (found.set ((a :: s).length - b.length) ((lastM (a :: s)).fdiv (lastM b)))
      else none) = some r := h
    split at h
    · have := quotLoop_length h
      rw [List.length_set] at this
      exact this
    · cases h
/-! slope, values -/
def slopeFrom : Nat → List Int → List Int
  | _, [] => []
  | i, x :: r => ((i : Nat) : Int) * x :: slopeFrom (i + 1) r
def slopeM (l : List Int) : List Int := (slopeFrom 0 l).drop 1
def horner (p : Int × Int) : Int → Int → List Int → Int × Int
  | found, power, [] => (found, power)
  | found, power, x :: r => horner p (found * p.1 + x * power) (power * p.2) r
def signAtM (row : List Int) (p : Int × Int) : Int := (horner p 0 1 row.reverse).1.sign
def powM (b : Int) : Nat → Int
  | 0 => 1
  | n + 1 => powM b n * b
def valueAtM (row : List Int) (p : Int × Int) : Int × Int := ((horner p 0 1 row.reverse).1, powM p.2 (row.length - 1))
theorem slopeFrom_length : ∀ (i : Nat) (l : List Int), (slopeFrom i l).length = l.length
  | _, [] => rfl
  | i, _ :: r => congrArg Nat.succ (slopeFrom_length (i + 1) r)
theorem slopeFrom_get : ∀ (i : Nat) (l : List Int) (j : Nat) (x : Int), l[j]? = some x → (slopeFrom i l)[j]? = some (((i + j : Nat) : Int) * x)
  | _, [], _, _, h => by simp at h
  | i, y :: r, 0, x, h => by
    simp at h
    subst h
    rfl
  | i, y :: r, j + 1, x, h => by
    have := slopeFrom_get (i + 1) r j x (by simpa using h)
    rw [show i + 1 + j = i + (j + 1) from by omega] at this
    exact this
/-! simple, chain, turns -/
def simpleM (row : List Int) : Option (List Int) := match gcdM row (slopeM row) with
  | none => none
  | some common => if 1 < common.length then (if (rowOk common && lastM common != 0) = true then (match quotM (primM row) common with
      | none => none
      | some q => if primOk q = true then some (primM q) else none) else none) else some (primM row)
def chainLoop : Nat → List (List Int) → List Int → List Int → Option (List (List Int))
  | 0, _, _, _ => none
  | n + 1, acc, prev, last => match last with
    | [] => some acc.reverse
    | a :: r => if (rowOk prev && rowOk (a :: r)) = true then
        (if primOk (rowRestM prev (if lastM (a :: r) > 0 then (a :: r) else (a :: r).map fun x => -x)) = true then
          chainLoop n ((a :: r) :: acc) (a :: r) ((rowRestM prev (if lastM (a :: r) > 0 then (a :: r) else (a :: r).map fun x => -x)).map fun x => (-x).fdiv (contentM (rowRestM prev (if lastM (a :: r) > 0 then (a :: r) else (a :: r).map fun x => -x)) : Int))
        else none)
      else none
def chainM (row : List Int) : Option (List (List Int)) := chainLoop 100 [row] row (slopeM row)
def chg (s : List Int) : Nat := ((List.range (s.length - 1)).filter fun i => s.getD i 0 != s.getD (i + 1) 0).length
def turnsM (l : List Int) : Nat := chg (l.filter (· != 0))
def farSign (row : List Int) : Int := (lastM row).sign * (if row.length % 2 = 1 then 1 else -1)
def turnsAtM (chain : List (List Int)) (p : Option (Int × Int)) : Nat := match p with
  | none => turnsM (chain.map farSign)
  | some q => turnsM (chain.map fun row => signAtM row q)
def countM (chain : List (List Int)) (low : Option (Int × Int)) (high : Int × Int) : Int := (turnsAtM chain low : Int) - (turnsAtM chain (some high) : Int)
end Bc
set_option Elab.async false
set_option linter.all false
set_option maxRecDepth 100000
namespace Bc
open PySem PySem.Spec PyProof.Rows L2
def top (i : Nat) : Stmt := PySem.Challenge.pw_bentcurves_k06_whole_texts.main.body.getD i (.Pass ⟨0, 0, 0, 0⟩)
abbrev s_is_whole : Stmt := top 9
abbrev s_is_shaped : Stmt := top 14
abbrev s_parts_of : Stmt := top 15
abbrev s_size_of : Stmt := top 16
abbrev s_degree_of : Stmt := top 17
abbrev s_is_curve : Stmt := top 18
abbrev s_highest : Stmt := top 19
abbrev s_need_curve : Stmt := top 20
abbrev s_written : Stmt := top 22
abbrev s_format_curve : Stmt := top 23
abbrev s_number_of : Stmt := top 24
abbrev s_comma_in : Stmt := top 25
abbrev s_curve_of : Stmt := top 26
abbrev s_parse_curve : Stmt := top 27
abbrev s__law_cell : Stmt := top 29
abbrev s__law_drawn : Stmt := top 30
abbrev s__law_roll : Stmt := top 31
abbrev s__law_rounds : Stmt := top 32
abbrev s__law_term : Stmt := top 33
abbrev s__law_told : Stmt := top 34
abbrev s__law_leaf : Stmt := top 35
abbrev s__law_any_curve : Stmt := top 36
abbrev s__law_curve : Stmt := top 37
abbrev s__law_text : Stmt := top 38
abbrev s_law : Stmt := top 39
end Bc
set_option Elab.async false
set_option linter.all false
set_option maxRecDepth 100000
set_option maxHeartbeats 4000000
namespace Bc
open PySem PySem.Spec PyProof.Rows L2
def kinds6 : List Str := ["InvalidCurve", "InvalidNumber", "InvalidPath", "InvalidText", "TooMany", "NothingToUndo"]
/-- the table of the exceptions' classes -/
structure Kits (K : PySem.W.Frag) : Prop where
  ex : ∀ x ∈ kinds6, ExcC K (He.ga K x)
  kit : ∀ x ∈ kinds6, ∀ y ∈ kinds6, PySem.W.kitOne K (.ref (He.ga K x)) (.ref (He.ga K y)) = some (decide (x = y))
  ve : ∀ x ∈ kinds6, PySem.W.kitOne K (.ref (He.ga K x)) (.type "ValueError") = some true
  exm : ∀ x ∈ kinds6, PySem.W.exmOne K (.ref (He.ga K x)) (.ref (He.ga K "CurveError")) = some true
def excB (K : PySem.W.Frag) (D : Addr) : Bool :=
  decide (PySem.W.findIn K (.ref D) "__getattribute__" = some (some (.builtin "BaseException.__getattribute__"))) && (decide (PySem.W.findIn K (.ref D) "__getattr__" = some none) && (decide (PySem.W.subIn K (.ref D) (.type "BaseException") = some true) && (PySem.W.hasDictIn K D && (decide (PySem.W.findIn K (.ref D) "__class__" = some (some (.builtin "object.__class__"))) && (decide (PySem.W.specialIn K (.builtin "object.__class__") "__get__" = some (some (.builtin "getset_descriptor.__get__"))) && (decide (PySem.W.takesIn K (.builtin "object.__class__") = some true) && decide (PySem.W.mroIn K D (.type "object") = some true)))))))
theorem excB_ok {K : PySem.W.Frag} {D : Addr} (h : excB K D = true) : ExcC K D := by
  unfold excB at h
  simp only [Bool.and_eq_true, decide_eq_true_eq] at h
  obtain ⟨h1, h2, h3, h4, h5, h6, h7, h8⟩ := h
  exact ⟨h1, h2, h3, h4, h5, h6, h7, h8⟩
def kitsB (K : PySem.W.Frag) : Bool := kinds6.all fun x => excB K (He.ga K x) && ((kinds6.all fun y => decide (PySem.W.kitOne K (.ref (He.ga K x)) (.ref (He.ga K y)) = some (decide (x = y)))) && (decide (PySem.W.kitOne K (.ref (He.ga K x)) (.type "ValueError") = some true) && decide (PySem.W.exmOne K (.ref (He.ga K x)) (.ref (He.ga K "CurveError")) = some true)))
theorem kits_of {K : PySem.W.Frag} (h : kitsB K = true) : Kits K := by
  unfold kitsB at h
  rw [List.all_eq_true] at h
  refine ⟨fun x hx => ?_, fun x hx y hy => ?_, fun x hx => ?_, fun x hx => ?_⟩ <;> have z := h x hx <;> rw [Bool.and_eq_true, Bool.and_eq_true, Bool.and_eq_true] at z
  · exact excB_ok z.1
  · exact of_decide_eq_true (List.all_eq_true.mp z.2.1 y hy)
  · exact of_decide_eq_true z.2.2.1
  · exact of_decide_eq_true z.2.2.2
end Bc
set_option Elab.async false
set_option linter.all false
set_option maxRecDepth 100000
set_option maxHeartbeats 0
namespace Bc
open PySem PySem.Spec PyProof.Rows L2
def d_is_whole : He.DefD := ⟨("is_whole", none), "is_whole", "is_whole", defArgs s_is_whole, defBody s_is_whole, defScope s_is_whole, [], []⟩
def d_is_shaped : He.DefD := ⟨("is_shaped", none), "is_shaped", "is_shaped", defArgs s_is_shaped, defBody s_is_shaped, defScope s_is_shaped, [], []⟩
def d_parts_of : He.DefD := ⟨("parts_of", none), "parts_of", "parts_of", defArgs s_parts_of, defBody s_parts_of, defScope s_parts_of, [], []⟩
def d_size_of : He.DefD := ⟨("size_of", none), "size_of", "size_of", defArgs s_size_of, defBody s_size_of, defScope s_size_of, [], []⟩
def d_degree_of : He.DefD := ⟨("degree_of", none), "degree_of", "degree_of", defArgs s_degree_of, defBody s_degree_of, defScope s_degree_of, [], []⟩
def d_is_curve : He.DefD := ⟨("is_curve", none), "is_curve", "is_curve", defArgs s_is_curve, defBody s_is_curve, defScope s_is_curve, [], []⟩
def d_highest : He.DefD := ⟨("highest", none), "highest", "highest", defArgs s_highest, defBody s_highest, defScope s_highest, [], []⟩
def d_need_curve : He.DefD := ⟨("need_curve", none), "need_curve", "need_curve", defArgs s_need_curve, defBody s_need_curve, defScope s_need_curve, [], []⟩
def d_written : He.DefD := ⟨("written", none), "written", "written", defArgs s_written, defBody s_written, defScope s_written, [], []⟩
def d_format_curve : He.DefD := ⟨("format_curve", none), "format_curve", "format_curve", defArgs s_format_curve, defBody s_format_curve, defScope s_format_curve, [], []⟩
def d_number_of : He.DefD := ⟨("number_of", none), "number_of", "number_of", defArgs s_number_of, defBody s_number_of, defScope s_number_of, [], []⟩
def d_comma_in : He.DefD := ⟨("comma_in", none), "comma_in", "comma_in", defArgs s_comma_in, defBody s_comma_in, defScope s_comma_in, [], []⟩
def d_curve_of : He.DefD := ⟨("curve_of", none), "curve_of", "curve_of", defArgs s_curve_of, defBody s_curve_of, defScope s_curve_of, [], []⟩
def d_parse_curve : He.DefD := ⟨("parse_curve", none), "parse_curve", "parse_curve", defArgs s_parse_curve, defBody s_parse_curve, defScope s_parse_curve, [], []⟩
def d__law_cell : He.DefD := ⟨("_law_cell", none), "_law_cell", "_law_cell", defArgs s__law_cell, defBody s__law_cell, defScope s__law_cell, [], []⟩
def d__law_drawn : He.DefD := ⟨("_law_drawn", none), "_law_drawn", "_law_drawn", defArgs s__law_drawn, defBody s__law_drawn, defScope s__law_drawn, [], []⟩
def d__law_roll : He.DefD := ⟨("_law_roll", none), "_law_roll", "_law_roll", defArgs s__law_roll, defBody s__law_roll, defScope s__law_roll, [], []⟩
def d__law_rounds : He.DefD := ⟨("_law_rounds", none), "_law_rounds", "_law_rounds", defArgs s__law_rounds, defBody s__law_rounds, defScope s__law_rounds, [], []⟩
def d__law_term : He.DefD := ⟨("_law_term", none), "_law_term", "_law_term", defArgs s__law_term, defBody s__law_term, defScope s__law_term, [], []⟩
def d__law_told : He.DefD := ⟨("_law_told", none), "_law_told", "_law_told", defArgs s__law_told, defBody s__law_told, defScope s__law_told, [], []⟩
def d__law_leaf : He.DefD := ⟨("_law_leaf", none), "_law_leaf", "_law_leaf", defArgs s__law_leaf, defBody s__law_leaf, defScope s__law_leaf, [], []⟩
def d__law_any_curve : He.DefD := ⟨("_law_any_curve", none), "_law_any_curve", "_law_any_curve", defArgs s__law_any_curve, defBody s__law_any_curve, defScope s__law_any_curve, [], []⟩
def d__law_curve : He.DefD := ⟨("_law_curve", none), "_law_curve", "_law_curve", defArgs s__law_curve, defBody s__law_curve, defScope s__law_curve, [], []⟩
def d__law_text : He.DefD := ⟨("_law_text", none), "_law_text", "_law_text", defArgs s__law_text, defBody s__law_text, defScope s__law_text, [], []⟩
def d_law : He.DefD := ⟨("law", none), "law", "law", defArgs s_law, defBody s_law, defScope s_law, [], []⟩
def fn : List He.DefD := ([d_is_whole, d_is_shaped, d_parts_of, d_size_of, d_degree_of, d_is_curve, d_highest, d_need_curve, d_written, d_format_curve, d_number_of, d_comma_in, d_curve_of, d_parse_curve, d__law_cell, d__law_drawn, d__law_roll, d__law_rounds, d__law_term, d__law_told, d__law_leaf, d__law_any_curve, d__law_curve, d__law_text, d_law] : List He.DefD)
def fa : List He.Fa := ([.glo "CurveError", .keep "CurveError", .glo "InvalidCurve", .keep "InvalidCurve", .glo "InvalidNumber", .keep "InvalidNumber", .glo "InvalidPath", .keep "InvalidPath", .glo "InvalidText", .keep "InvalidText", .glo "TooMany", .keep "TooMany", .glo "NothingToUndo", .keep "NothingToUndo", .glo "is_whole", .int "MOST_PARTS" 15, .int "MOST_DEGREE" 6, .glo "PAIRS", .glo "is_shaped", .glo "parts_of", .glo "size_of", .glo "degree_of", .glo "is_curve", .glo "highest", .glo "need_curve", .glo "written", .glo "format_curve", .glo "number_of", .glo "comma_in", .glo "curve_of"] : List He.Fa) ++ ([.glo "parse_curve", .glo "_law_cell", .glo "_law_drawn", .glo "_law_roll", .glo "_law_rounds", .glo "_law_term", .glo "_law_told", .glo "_law_leaf", .glo "_law_any_curve", .glo "_law_curve", .glo "_law_text", .glo "law", .free "ValueError", .free "all", .free "bool", .free "enumerate", .free "int", .free "isinstance", .free "len", .free "list", .free "max", .free "min", .free "range", .free "str", .free "sum", .free "tuple", .free "abs", .free "any", .free "sorted", .exc "CurveError"] : List He.Fa) ++ ([.exc "InvalidCurve", .exc "InvalidNumber", .exc "InvalidPath", .exc "InvalidText", .exc "TooMany", .exc "NothingToUndo"] : List He.Fa)
def ex (K : PySem.W.Frag) : Bool := He.tupB K "PAIRS" [.str "sum", .str "times", .str "max", .str "min", .str "into"] && (kitsB K)
def nms : List PySem.Str := (["CurveError", "InvalidCurve", "InvalidNumber", "InvalidPath", "InvalidText", "TooMany", "NothingToUndo", "is_whole", "MOST_PARTS", "MOST_DEGREE", "PAIRS", "is_shaped", "parts_of", "size_of", "degree_of", "is_curve", "highest", "need_curve", "written", "format_curve", "number_of", "comma_in", "curve_of", "parse_curve", "_law_cell", "_law_drawn", "_law_roll", "_law_rounds", "_law_term", "_law_told"] : List PySem.Str) ++ (["_law_leaf", "_law_any_curve", "_law_curve", "_law_text"] : List PySem.Str)
abbrev R : PySem.W.OpenRow := PySem.W.OpenLaw.row PySem.Challenge.rw_bentcurves_k06_whole_texts
def tf : List He.Defn := [("law", none)]
abbrev hk : PySem.W.Hook := He.hookX 5 fa fn [] tf ex
def ob (s : PySem.W.SharedT) : He.AlX := He.obsX 5 fa fn [] tf ex (HandSHeadRun.getT s)
theorem ob_eq (s : PySem.W.SharedT) : ob s = hk.obs s.abs := He.obsX_eq (HandSHeadRun.getT_eq s)
theorem run (w : World) : HandSHeadRun.RunEq R (PySem.W.view R.prog [39]) hk ob 9000 nms w := by
  intro os
  kernel_rfl
end Bc
set_option Elab.async false
set_option linter.all false
set_option maxRecDepth 100000
set_option maxHeartbeats 4000000
namespace Bc
open PySem PySem.Spec PyProof.Rows L2
/-! ### numbers.py -/
/-- built-in names that the module leaves free -/
structure Blt (mg : Str → Option Value) : Prop where
  abs : mg "abs" = none
  all : mg "all" = none
  bool : mg "bool" = none
  enumerate : mg "enumerate" = none
  int : mg "int" = none
  isinstance : mg "isinstance" = none
  len : mg "len" = none
  list : mg "list" = none
  max : mg "max" = none
  min : mg "min" = none
  range : mg "range" = none
  str : mg "str" = none
  sum : mg "sum" = none
  tuple : mg "tuple" = none
structure DefAt (K : PySem.W.Frag) (mg : Str → Option Value) (x : Str) (st : Stmt) : Prop where
  fd : ∃ fd, FunD K x x (defArgs st) (defBody st) (defScope st) [] [] (He.ga K x) fd
  gl : mg x = some (.ref (He.ga K x))
section
variable {P : Program} {w : World} {K : PySem.W.Frag} {mg : Str → Option Value} {base : Heap}
theorem iabs (a : Int) : (if a < 0 then -a else a) = (a.natAbs : Int) := by split <;> omega
def lowM (a b : Int) : Int × Int := if b < 0 then (a.fdiv (-(Int.gcd a b : Int)), b.fdiv (-(Int.gcd a b : Int))) else (a.fdiv (Int.gcd a b : Int), b.fdiv (Int.gcd a b : Int))
theorem gcd_ne {a b : Int} (h : b ≠ 0) : ((Int.gcd a b : Nat) : Int) ≠ 0 := by
  have : 0 < Int.gcd a b := Int.gcd_pos_of_ne_zero_right a h
  omega
def lessM (p q : Int × Int) : Bool := decide (p.1 * q.2 < q.1 * p.2)
theorem FrOk.cm {p q : Int × Int} (hp : FrOk p) (hq : FrOk q) : CM p.1 q.1 ∧ CM p.1 q.2 ∧ CM q.1 p.2 ∧ CM p.2 q.2 := ⟨hp.2.1.cm hq.2.1 (by decide), hp.2.1.cm hq.2.2 (by decide), hq.2.1.cm hp.2.2 (by decide), hp.2.2.cm hq.2.2 (by decide)⟩
theorem gcd_log {a b : Int} {n : Nat} (h0 : b ≠ 0) (h : Bd n b) : (Int.gcd a b).log2 ≤ n := by
  have h1 : Int.gcd a b ≤ b.natAbs := Nat.le_of_dvd (by omega) (Int.gcd_dvd_natAbs_right a b)
  have h2 : Bd n (Int.gcd a b : Int) := Nat.lt_of_le_of_lt h1 h
  exact h2.log2
def betweenM (p q : Int × Int) : Int × Int := lowM (p.1 * q.2 + q.1 * p.2) (2 * p.2 * q.2)
def spFr2 (K : PySem.W.Frag) (f : Int × Int → Int × Int → Int × Int) : Sp := fun vs H Q _ => ∃ (v u : V) (p q : Int × Int), vs = [v, u] ∧ IsFr K H v p ∧ IsFr K H u q ∧ FrOk p ∧ FrOk q ∧ RetFr K H Q (f p q)
def plusM (p q : Int × Int) : Int × Int := lowM (p.1 * q.2 + q.1 * p.2) (p.2 * q.2)
def timesM (p q : Int × Int) : Int × Int := lowM (p.1 * q.1) (p.2 * q.2)
/-! is_whole -/
def wholeM (d : PyData) (lo hi : Int) : Bool := match d with
  | .int i => decide (lo ≤ i) && decide (i ≤ hi)
  | _ => false
theorem sc_is_whole : FnScope ["value", "low", "high"] ["value", "low", "high"] (defScope s_is_whole) := ⟨rfl, rfl, rfl, by decide +kernel, rfl, by decide +kernel, by decide +kernel⟩
def spWhole (K : PySem.W.Frag) : Sp := fun vs H Q _ => ∃ (v : V) (d : PyData) (lo hi : Int), vs = [v, .int lo, .int hi] ∧ Dp K H v d ∧ Q (.bl (wholeM d lo hi)) H
theorem c_is_whole (B : Blt mg) (F : DefAt K mg "is_whole" s_is_whole) : Cal P w K mg base CX0 1 "is_whole" ["value", "low", "high"] (spWhole K) := by
  obtain ⟨⟨fd, F⟩, gl⟩ := F
  refine cal_of0 F gl sc_is_whole (fun _ _ _ _ _ _ us hl => match us, hl with | [_, _, _], _ => rfl) (fun vs H Q E h => by obtain ⟨a, d, lo, hi, rfl, _⟩ := h; rfl) (fun cdv A outer s H vs Q E hr h => ?_)
  obtain ⟨v, d, lo, hi, rfl, hd, hq⟩ := h
  refine ⟨_, (pss_one (ps_ret (pe_and (pe_callB call_isi (by rfl) B.isinstance (by decide +kernel) (pa_cons (pv 0) (pa_cons (pe_bltn (v := .ty "int") (by rfl) B.int (by decide +kernel) rfl) pa_nil))) (pe_and (pe_not (pe_callB call_isi (by rfl) B.isinstance (by decide +kernel) (pa_cons (pv 0) (pa_cons (pe_bltn (v := .ty "bool") (by rfl) B.bool (by decide +kernel) rfl) pa_nil)))) (pe_one (pe_chain op_le op_le (pv 1) (pv 0) (pv 2))))))), ?_⟩
  cases d with
  | int i =>
    cases hd
    refine ⟨_, rfl, _, _, _, _, true, rfl, .ty _, ty_d (.int i), kit_ty (by decide +kernel), true, rfl, iteT ?_⟩
    refine ⟨_, rfl, _, _, _, _, false, rfl, .ty _, ty_d (.int i), kit_ty (by decide +kernel), false, rfl, true, rfl, iteT ?_⟩
    refine ⟨_, rfl, _, rfl, _, _, rfl, rfl, _, rfl, ite2 (fun h1 => ?_) (fun h1 => ?_)⟩
    · refine ⟨_, rfl, _, _, rfl, rfl, ?_⟩
      have e : wholeM (.int i) lo hi = decide (i ≤ hi) := by show (decide (lo ≤ i) && decide (i ≤ hi)) = _; rw [h1, Bool.true_and]
      rw [e] at hq
      exact hq
    · have e : wholeM (.int i) lo hi = false := by show (decide (lo ≤ i) && decide (i ≤ hi)) = _; rw [Bool.eq_false_iff.mpr h1, Bool.false_and]
      rw [e] at hq
      exact hq
  | bool b =>
    refine ⟨_, rfl, _, _, _, _, true, rfl, .ty _, ty_d hd, kit_ty (by decide +kernel), true, rfl, iteT ?_⟩
    exact ⟨_, rfl, _, _, _, _, true, rfl, .ty _, ty_d hd, kit_ty (by decide +kernel), true, rfl, false, rfl, iteF hq⟩
  | _ => exact ⟨_, rfl, _, _, _, _, false, rfl, .ty _, ty_d hd, kit_ty (by decide +kernel), false, rfl, iteF hq⟩
end
end Bc
set_option Elab.async false
set_option linter.all false
set_option maxRecDepth 100000
set_option maxHeartbeats 4000000
namespace Bc
open PySem PySem.Spec PyProof.Rows L2
/-! ### terms.py -/
section
variable {K : PySem.W.Frag} {H : Hp} {v : V}
theorem dp_num {n : Int} (h : Dp K H v (Cv.num n).d) : ∃ a, v = .ref a ∧ SqT K H a [.str "num", .int n] := by
  cases h with
  | tup h a => cases a with
    | cons h1 a => cases a with
      | cons h2 a => cases a; cases h1; cases h2; exact ⟨_, rfl, h⟩
theorem dp_x (h : Dp K H v Cv.x.d) : ∃ a, v = .ref a ∧ SqT K H a [.str "x"] := by
  cases h with
  | tup h a => cases a with
    | cons h1 a => cases a; cases h1; exact ⟨_, rfl, h⟩
theorem dp_abs {c : Cv} (h : Dp K H v (Cv.abs c).d) : ∃ a u, v = .ref a ∧ SqT K H a [.str "abs", u] ∧ Dp K H u c.d := by
  cases h with
  | tup h a => cases a with
    | cons h1 a => cases a with
      | cons h2 a => cases a; cases h1; exact ⟨_, _, rfl, h, h2⟩
theorem dp_bin {k : Kd} {c e : Cv} (h : Dp K H v (Cv.bin k c e).d) : ∃ a u y, v = .ref a ∧ SqT K H a [.str k.s, u, y] ∧ Dp K H u c.d ∧ Dp K H y e.d := by
  cases h with
  | tup h a => cases a with
    | cons h1 a => cases a with
      | cons h2 a => cases a with
        | cons h3 a => cases a; cases h1; exact ⟨_, _, _, rfl, h, h2, h3⟩
theorem in_t {x : V} {xs : List V} {A B : Prop} (h : inV x xs = true) (a : A) : if (if false = true then !inV x xs else inV x xs) = true then A else B := by
  rw [h]; exact a
theorem in_f {x : V} {xs : List V} {A B : Prop} (h : inV x xs = false) (b : B) : if (if false = true then !inV x xs else inV x xs) = true then A else B := by
  rw [h]; exact b
theorem leaf_in : inV (V.str "num") [V.str "num", V.str "x"] = true ∧ inV (V.str "x") [V.str "num", V.str "x"] = true ∧ inV (V.str "abs") [V.str "num", V.str "x"] = false ∧ ∀ k : Kd, inV (V.str k.s) [V.str "num", V.str "x"] = false := by
  refine ⟨by decide +kernel, by decide +kernel, by decide +kernel, fun k => ?_⟩
  cases k <;> decide +kernel
end
section
variable {P : Program} {w : World} {K : PySem.W.Frag} {mg : Str → Option Value} {base : Heap}
/-! parts_of -/
theorem sc_parts_of : FnScope ["curve"] ["curve"] (defScope s_parts_of) := ⟨rfl, rfl, rfl, by decide +kernel, rfl, by decide +kernel, by decide +kernel⟩
def spParts (K : PySem.W.Frag) : Sp := fun vs H Q _ => ∃ (v : V) (c : Cv), vs = [v] ∧ Dp K H v c.d ∧ ∀ p ws H', Same H H' → H p = none → H' p = some (.lst ws) → DpAll K H' ws (c.args.map Cv.d) → Q (.ref p) H'
theorem c_parts_of (B : Blt mg) (F : DefAt K mg "parts_of" s_parts_of) : Cal P w K mg base CX0 1 "parts_of" ["curve"] (spParts K) := by
  obtain ⟨⟨fd, F⟩, gl⟩ := F
  refine cal_of0 F gl sc_parts_of (fun _ _ _ _ _ _ us hl => match us, hl with | [_], _ => rfl) (fun vs H Q E h => by obtain ⟨a, _, rfl, _⟩ := h; rfl) (fun cdv A outer s H vs Q E hr h => ?_)
  obtain ⟨v, c, rfl, hd, hq⟩ := h
  refine ⟨_, (pss_one (ps_ret (pe_ifExp (pt_cmpR op_in_seq (pe_ix ix_tup (pv 0) pe_int (fun _ _ => rfl)) (pe_tup (pa_cons pe_str (pa_cons pe_str pa_nil))) (by rfl)) (pe_lst pa_nil) (pe_callTy call_list_of (by rfl) B.list (by decide +kernel) (pa_cons (pe_slice sl_tupA (pv 0) (po_some pe_int) po_none) pa_nil))))), ?_⟩
  cases c with
  | num n =>
    obtain ⟨a, rfl, ht⟩ := dp_num hd
    refine ⟨_, rfl, a, _, _, _, rfl, rfl, ht, rfl, sz2, fun p hp => ⟨p, _, rfl, .inr (SqT.of upd_same), rfl, rfl, _, rfl, in_t leaf_in.1 ?_⟩⟩
    exact ⟨Nat.zero_le _, fun q hq' => hq q [] _ ((Same.new hp).trans (Same.new hq')) ((Same.new hp).free hq') upd_same .nil⟩
  | x =>
    obtain ⟨a, rfl, ht⟩ := dp_x hd
    refine ⟨_, rfl, a, _, _, _, rfl, rfl, ht, rfl, sz2, fun p hp => ⟨p, _, rfl, .inr (SqT.of upd_same), rfl, rfl, _, rfl, in_t leaf_in.2.1 ?_⟩⟩
    exact ⟨Nat.zero_le _, fun q hq' => hq q [] _ ((Same.new hp).trans (Same.new hq')) ((Same.new hp).free hq') upd_same .nil⟩
  | abs c =>
    obtain ⟨a, u, rfl, ht, hu⟩ := dp_abs hd
    refine ⟨_, rfl, a, _, _, _, rfl, rfl, ht, rfl, sz2, fun p hp => ⟨p, _, rfl, .inr (SqT.of upd_same), rfl, rfl, _, rfl, in_f leaf_in.2.2.1 ?_⟩⟩
    refine ⟨_, rfl, 1, rfl, a, _, rfl, ex_t (Same.new hp) ht, (fun z => absurd (show HT.sIx 2 0 (some 1) = 0 from z.1) (by decide)), fun _ q hq' => ⟨q, _, rfl, .inr (SqT.of upd_same), fun l hl => ?_⟩⟩
    have e := ((Same.new (o := .tup [.str "num", .str "x"]) hp).trans (Same.new (o := .tup [u]) hq')).trans (Same.new (o := .lst [u]) hl)
    exact hq l [u] _ e (((Same.new hp).trans (Same.new hq')).free hl) upd_same (.cons (Dp.ex e hu) .nil)
  | bin k c1 c2 =>
    obtain ⟨a, u, y, rfl, ht, hu, hy⟩ := dp_bin hd
    refine ⟨_, rfl, a, _, _, _, rfl, rfl, ht, rfl, sz2, fun p hp => ⟨p, _, rfl, .inr (SqT.of upd_same), rfl, rfl, _, rfl, in_f (leaf_in.2.2.2 k) ?_⟩⟩
    refine ⟨_, rfl, 1, rfl, a, _, rfl, ex_t (Same.new hp) ht, (fun z => absurd (show HT.sIx 3 0 (some 1) = 0 from z.1) (by decide)), fun _ q hq' => ⟨q, _, rfl, .inr (SqT.of upd_same), fun l hl => ?_⟩⟩
    have e := ((Same.new (o := .tup [.str "num", .str "x"]) hp).trans (Same.new (o := .tup [u, y]) hq')).trans (Same.new (o := .lst [u, y]) hl)
    exact hq l [u, y] _ e (((Same.new hp).trans (Same.new hq')).free hl) upd_same (.cons (Dp.ex e hu) (.cons (Dp.ex e hy) .nil))
/-! size_of -/
theorem Cv.args_depth {c e : Cv} {n : Nat} (h : c.depth ≤ n + 1) (he : e ∈ c.args) : e.depth ≤ n := by
  cases c with
  | num n => cases he
  | x => cases he
  | abs a =>
    have h : a.depth + 1 ≤ n + 1 := h
    rw [List.mem_singleton.mp he]; omega
  | bin k a b =>
    have h : max a.depth b.depth + 1 ≤ n + 1 := h
    rcases List.mem_cons.mp he with rfl | he
    · omega
    · rw [List.mem_singleton.mp he]; omega
theorem Cv.args_size {c e : Cv} {m : Nat} (h : c.size ≤ m) (he : e ∈ c.args) : e.size ≤ m := by
  cases c with
  | num n => cases he
  | x => cases he
  | abs a =>
    have h : 1 + a.size ≤ m := h
    rw [List.mem_singleton.mp he]; omega
  | bin k a b =>
    have h : 1 + (a.size + b.size) ≤ m := h
    rcases List.mem_cons.mp he with rfl | he
    · omega
    · rw [List.mem_singleton.mp he]; omega
theorem Cv.deg_bd (c : Cv) : c.deg ≤ 2 ^ c.size := by
  induction c with
  | num n => exact Nat.zero_le _
  | x => exact (by decide : (1 : Nat) ≤ 2 ^ 1)
  | abs a ih => show a.deg ≤ 2 ^ (1 + a.size); exact Nat.le_trans ih (Nat.pow_le_pow_right (by decide) (by omega))
  | bin k a b ih1 ih2 =>
    have p1 : 2 ^ a.size ≤ 2 ^ (a.size + b.size) := Nat.pow_le_pow_right (by decide) (by omega)
    have p2 : 2 ^ b.size ≤ 2 ^ (a.size + b.size) := Nat.pow_le_pow_right (by decide) (by omega)
    have p3 : 2 ^ (1 + (a.size + b.size)) = 2 * 2 ^ (a.size + b.size) := by rw [Nat.pow_add]
    show (Cv.bin k a b).deg ≤ 2 ^ (1 + (a.size + b.size))
    rw [p3]
    cases k with
    | sum => show max a.deg b.deg ≤ _; omega
    | times => show a.deg + b.deg ≤ _; omega
    | max => show max a.deg b.deg ≤ _; omega
    | min => show max a.deg b.deg ≤ _; omega
    | into =>
      show a.deg * b.deg ≤ _
      have : a.deg * b.deg ≤ 2 ^ a.size * 2 ^ b.size := Nat.mul_le_mul ih1 ih2
      rw [← Nat.pow_add] at this
      omega
theorem Cv.args_len (c : Cv) : c.args.length ≤ 2 := by cases c <;> simp [Cv.args]
theorem Cv.depth_pos (c : Cv) : 0 < c.depth := by cases c <;> simp [Cv.depth]
theorem Cv.size_eq (c : Cv) : (c.size : Int) = 1 + (c.args.map fun e => (e.size : Int)).sum := by
  cases c with
  | num n => rfl
  | x => rfl
  | abs a => show ((1 + a.size : Nat) : Int) = 1 + (([a].map fun e : Cv => (e.size : Int)).sum); simp
  | bin k a b => show ((1 + (a.size + b.size) : Nat) : Int) = 1 + (([a, b].map fun e : Cv => (e.size : Int)).sum); simp
/-- a number for each part -/
theorem ints_map {f : Cv → Int} {ys : List V} {l : List Cv} (hl : ys.length = l.length) (h : ∀ (j : Nat) y, ys[j]? = some y → ∃ e, l[j]? = some e ∧ y = .int (f e)) : ys = (l.map f).map V.int := by
  rw [List.map_map]
  refine vals_map hl fun j x y hx hy => ?_
  obtain ⟨e, h1, h2⟩ := h j y hy
  rw [hx] at h1
  cases h1
  exact h2
theorem dpall_at {K : PySem.W.Frag} {H : Hp} {ws : List V} {l : List Cv} {j : Nat} {x : V} (h : DpAll K H ws (l.map Cv.d)) (hx : ws[j]? = some x) : ∃ e, l[j]? = some e ∧ Dp K H x e.d := by
  obtain ⟨d, h1, h2⟩ := DpAll.get h hx
  rw [List.getElem?_map] at h1
  cases q : l[j]? with
  | none => rw [q] at h1; cases h1
  | some e => rw [q] at h1; cases h1; exact ⟨e, rfl, h2⟩
theorem sc_size_of : FnScope ["curve", "part"] ["curve"] (defScope s_size_of) := ⟨rfl, rfl, rfl, by decide +kernel, rfl, by decide +kernel, by decide +kernel⟩
def spCvInt (K : PySem.W.Frag) (n m : Nat) (f : Cv → Int) : Sp := fun vs H Q _ => ∃ (v : V) (c : Cv), vs = [v] ∧ Dp K H v c.d ∧ c.depth ≤ n ∧ c.size ≤ m ∧ ∀ H', Same H H' → Q (.int (f c)) H'
theorem c_size_of (B : Blt mg) (F : DefAt K mg "size_of" s_size_of) (c_parts_of : Cal P w K mg base CX0 1 "parts_of" ["curve"] (spParts K)) {m : Nat} : ∀ n, Cal P w K mg base CX0 (n + 2) "size_of" ["curve"] (spCvInt K n m fun c => c.size) := by
  intro n
  induction n with
  | zero =>
    obtain ⟨⟨fd, F⟩, gl⟩ := F
    refine cal_of0 F gl sc_size_of (fun _ _ _ _ _ _ us hl => match us, hl with | [_], _ => rfl) (fun vs H Q E h => by obtain ⟨a, _, rfl, _⟩ := h; rfl) (fun cdv A outer s H vs Q E hr h => ?_)
    obtain ⟨v, c, rfl, hd, hn, hm, hq⟩ := h
    exact absurd hn (Nat.not_le.mpr c.depth_pos)
  | succ n c_size_of =>
    obtain ⟨⟨fd, F⟩, gl⟩ := F
    refine cal_of0 F gl sc_size_of (fun _ _ _ _ _ _ us hl => match us, hl with | [_], _ => rfl) (fun vs H Q E h => by obtain ⟨a, _, rfl, _⟩ := h; rfl) (fun cdv A outer s H vs Q E hr h => ?_)
    obtain ⟨v, c, rfl, hd, hn, hm, hq⟩ := h
    refine ⟨_, (pss_one (ps_ret (pe_op op_add pe_int (pe_callB (cr_sum rfl) (by rfl) B.sum (by decide +kernel) (pa_cons (pe_lc (own := [("part", 1)]) (g := gName 1) (tt := tYes) rfl sc_size_of.nd (pi_list (pe_c c_parts_of (hr.mono (by omega)) pass0 (pa_cons (pv 0) pa_nil))) (blkOk_by (own := [("part", 1)]) (N := ["curve", "part"]) (sc := defScope s_size_of) (by decide +kernel)) (fun _ _ _ _ _ => pg_name (i := 1) sc_size_of.nd rfl (Or.inl rfl)) (fun _ _ _ _ _ => pts_nil) (fun _ _ _ _ _ => (pe_c c_size_of (hr.mono (by omega)) pass0 (pa_cons (pv 1) pa_nil)))) pa_nil))))), ?_⟩
    refine ⟨_, rfl, v, c, rfl, hd, fun p ws H1 e1 _ hp hw => ⟨p, rfl, ⟨_, SqL.of hp⟩, fun D hD => ?_⟩⟩
    have hl : ws.length = c.args.length := by rw [DpAll.length hw, List.length_map]
    refine lc_listR (K := K) (fun j y _ => ∃ e, c.args[j]? = some e ∧ y = .int (e.size : Int)) (fun _ _ _ _ h _ => h) (fun _ _ _ _ _ _ h => h) hD (SqL.of hp) (Nat.le_trans (by rw [hl]; exact c.args_len) sz2) (fun j x hx H2 e2 Q2 q2 => ?_) (fun ys H2 e2 hD2 hy hr2 => ?_)
    · obtain ⟨e, he, hxe⟩ := dpall_at hw hx
      exact ⟨_, rfl, x, e, rfl, Dp.ex e2 hxe, Cv.args_depth hn (List.mem_of_getElem? he), Cv.args_size hm (List.mem_of_getElem? he), fun H3 e3 => q2 _ _ e3 ⟨e, he, rfl⟩⟩
    · have ey := ints_map (f := fun e => (e.size : Int)) (hy.trans hl) hr2
      refine ⟨D, c.args.map fun e => (e.size : Int), rfl, SqL.of (by rw [hD2, ey]), _, _, rfl, rfl, ?_⟩
      have z := hq _ (e1.trans e2)
      show Q (V.int (1 + (c.args.map fun e => (e.size : Int)).sum)) H2
      rw [← Cv.size_eq]
      exact z
/-! degree_of -/
theorem Cv.deg_eq (c : Cv) (h : c.args ≠ []) : (c.deg : Int) = match c with
    | .bin .times a b => (a.deg : Int) + b.deg
    | .bin .into a b => (a.deg : Int) * b.deg
    | .bin _ a b => (max a.deg b.deg : Nat)
    | .abs a => a.deg
    | _ => 0 := by
  cases c with
  | num n => exact absurd rfl h
  | x => exact absurd rfl h
  | abs a => rfl
  | bin k a b => cases k <;> simp [Cv.deg]
theorem kstr : (∀ k : Kd, decide (V.str k.s = V.str "times") = decide (k = .times)) ∧ (∀ k : Kd, decide (V.str k.s = V.str "into") = decide (k = .into)) := by
  refine ⟨fun k => ?_, fun k => ?_⟩ <;> cases k <;> decide +kernel
theorem sc_degree_of : FnScope ["curve", "degrees", "part"] ["curve"] (defScope s_degree_of) := ⟨rfl, rfl, rfl, by decide +kernel, rfl, by decide +kernel, by decide +kernel⟩
theorem max_two {a b m : Int} (h : m ∈ [a, b]) (h2 : ∀ y ∈ [a, b], y ≤ m) : m = max a b := by
  have h3 := h2 a (by simp)
  have h4 := h2 b (by simp)
  simp at h
  omega
/-- the degrees of the parts, as a list: what is asked of the comprehension -/
theorem c_degree_of (B : Blt mg) (F : DefAt K mg "degree_of" s_degree_of) (c_parts_of : Cal P w K mg base CX0 1 "parts_of" ["curve"] (spParts K)) : ∀ n, Cal P w K mg base CX0 (n + 2) "degree_of" ["curve"] (spCvInt K n 15 fun c => c.deg) := by
  intro n
  induction n with
  | zero =>
    obtain ⟨⟨fd, F⟩, gl⟩ := F
    refine cal_of0 F gl sc_degree_of (fun _ _ _ _ _ _ us hl => match us, hl with | [_], _ => rfl) (fun vs H Q E h => by obtain ⟨a, _, rfl, _⟩ := h; rfl) (fun cdv A outer s H vs Q E hr h => ?_)
    obtain ⟨v, c, rfl, hd, hn, hm, hq⟩ := h
    exact absurd hn (Nat.not_le.mpr c.depth_pos)
  | succ n c_degree_of =>
    obtain ⟨⟨fd, F⟩, gl⟩ := F
    refine cal_of0 F gl sc_degree_of (fun _ _ _ _ _ _ us hl => match us, hl with | [_], _ => rfl) (fun vs H Q E h => by obtain ⟨a, _, rfl, _⟩ := h; rfl) (fun cdv A outer s H vs Q E hr h => ?_)
    obtain ⟨v, c, rfl, hd, hn, hm, hq⟩ := h
    refine ⟨_, (pss_cons (ps_if (pt_cmpR op_in_seq (pe_ix ix_tup (pv 0) pe_int (fun _ _ => rfl)) (pe_tup (pa_cons pe_str (pa_cons pe_str pa_nil))) (by rfl))
        (pss_one (ps_ret (pe_ifExp (pt_cmpR op_eq (pe_ix ix_tup (pv 0) pe_int (fun _ _ => rfl)) pe_str (nomark _)) pe_int pe_int)))
        pss_nil)
      (pss_cons (ps_setLc (i := 1) (own := [("part", 2)]) (g := gName 2) (tt := tYes) rfl sc_degree_of.nd rfl rfl (sw_true rfl rfl rfl (by decide +kernel)) (pi_list (pe_c c_parts_of (hr.mono (by omega)) pass0 (pa_cons (pv 0) pa_nil))) (blkOk_by (own := [("part", 2)]) (N := ["curve", "degrees", "part"]) (sc := defScope s_degree_of) (by decide +kernel)) (fun _ _ _ _ _ => pg_name (i := 2) sc_degree_of.nd rfl (Or.inl rfl)) (fun _ _ _ _ _ => pts_nil) (fun _ _ _ _ _ => (pe_c c_degree_of (hr.mono (by omega)) pass0 (pa_cons (pv 2) pa_nil))))
      (pss_cons (ps_if (pt_cmpR op_eq (pe_ix ix_tup (pv 0) pe_int (fun _ _ => rfl)) pe_str (nomark _))
        (pss_one (ps_ret (pe_op op_add (pe_ix ix_list (pv 1) pe_int (fun _ _ => rfl)) (pe_ix ix_list (pv 1) pe_int (fun _ _ => rfl)))))
        pss_nil)
      (pss_cons (ps_if (pt_cmpR op_eq (pe_ix ix_tup (pv 0) pe_int (fun _ _ => rfl)) pe_str (nomark _))
        (pss_one (ps_ret (pe_op op_mulM (pe_ix ix_list (pv 1) pe_int (fun _ _ => rfl)) (pe_ix ix_list (pv 1) pe_int (fun _ _ => rfl)))))
        pss_nil)
      (pss_one (ps_ret (pe_callB (cr_max rfl) (by rfl) B.max (by decide +kernel) (pa_cons (pv 1) pa_nil)))))))), ?_⟩
    cases c with
    | num i =>
      obtain ⟨a, rfl, ht⟩ := dp_num hd
      refine ⟨_, rfl, a, _, _, _, rfl, rfl, ht, rfl, sz2, fun p hp => ⟨p, _, rfl, .inr (SqT.of upd_same), rfl, rfl, _, rfl, in_t leaf_in.1 ?_⟩⟩
      exact ⟨_, rfl, a, _, _, _, rfl, rfl, ex_t (Same.new hp) ht, rfl, rfl, _, rfl, iteT (hq _ (Same.new hp))⟩
    | x =>
      obtain ⟨a, rfl, ht⟩ := dp_x hd
      refine ⟨_, rfl, a, _, _, _, rfl, rfl, ht, rfl, sz2, fun p hp => ⟨p, _, rfl, .inr (SqT.of upd_same), rfl, rfl, _, rfl, in_t leaf_in.2.1 ?_⟩⟩
      refine ⟨_, rfl, a, _, _, _, rfl, rfl, ex_t (Same.new hp) ht, rfl, rfl, _, rfl, ?_⟩
      rw [decide_eq_false (show ¬ V.str "x" = V.str "num" by decide +kernel)]
      exact iteF (hq _ (Same.new hp))
    | abs c =>
      obtain ⟨a, u, rfl, ht, hu⟩ := dp_abs hd
      refine ⟨_, rfl, a, _, _, _, rfl, rfl, ht, rfl, sz2, fun p hp => ⟨p, _, rfl, .inr (SqT.of upd_same), rfl, rfl, _, rfl, in_f leaf_in.2.2.1 ?_⟩⟩
      refine ⟨_, rfl, _, .abs c, rfl, Dp.ex (Same.new hp) hd, fun p2 ws H1 e1 _ hp2 hw => ⟨p2, rfl, ⟨_, SqL.of hp2⟩, fun D hD => ?_⟩⟩
      have e0 := (Same.new (o := .tup [.str "num", .str "x"]) hp).trans e1
      have hl : ws.length = (Cv.abs c).args.length := by rw [DpAll.length hw, List.length_map]
      refine lc_listR (K := K) (fun j y _ => ∃ e, (Cv.abs c).args[j]? = some e ∧ y = .int (e.deg : Int)) (fun _ _ _ _ h _ => h) (fun _ _ _ _ _ _ h => h) hD (SqL.of hp2) (Nat.le_trans (by rw [hl]; exact Cv.args_len _) sz2) (fun j x hx H2 e2 Q2 q2 => ?_) (fun ys H2 e2 hD2 hy hr2 => ?_)
      · obtain ⟨e, he, hxe⟩ := dpall_at hw hx
        exact ⟨_, rfl, x, e, rfl, Dp.ex e2 hxe, Cv.args_depth hn (List.mem_of_getElem? he), Cv.args_size hm (List.mem_of_getElem? he), fun H3 e3 => q2 _ _ e3 ⟨e, he, rfl⟩⟩
      · have ey := ints_map (f := fun e => (e.deg : Int)) (hy.trans hl) hr2
        rw [ey] at hD2
        have e3 := e0.trans e2
        refine ⟨_, rfl, a, _, _, _, rfl, rfl, ex_t e3 ht, rfl, rfl, _, rfl, ?_⟩
        rw [decide_eq_false (show ¬ V.str "abs" = V.str "times" by decide +kernel)]
        refine iteF ⟨_, rfl, a, _, _, _, rfl, rfl, ex_t e3 ht, rfl, rfl, _, rfl, ?_⟩
        rw [decide_eq_false (show ¬ V.str "abs" = V.str "into" by decide +kernel)]
        refine iteF ⟨_, rfl, D, [(c.deg : Int)], rfl, SqL.of hD2, (by show 0 < 1; decide), fun m h1 h2 => ?_⟩
        rw [List.mem_singleton.mp h1]
        exact hq _ e3
    | bin k c1 c2 =>
      obtain ⟨a, u, y, rfl, ht, hu, hy⟩ := dp_bin hd
      refine ⟨_, rfl, a, _, _, _, rfl, rfl, ht, rfl, sz2, fun p hp => ⟨p, _, rfl, .inr (SqT.of upd_same), rfl, rfl, _, rfl, in_f (leaf_in.2.2.2 k) ?_⟩⟩
      refine ⟨_, rfl, _, .bin k c1 c2, rfl, Dp.ex (Same.new hp) hd, fun p2 ws H1 e1 _ hp2 hw => ⟨p2, rfl, ⟨_, SqL.of hp2⟩, fun D hD => ?_⟩⟩
      have e0 := (Same.new (o := .tup [.str "num", .str "x"]) hp).trans e1
      have hl : ws.length = (Cv.bin k c1 c2).args.length := by rw [DpAll.length hw, List.length_map]
      refine lc_listR (K := K) (fun j y _ => ∃ e, (Cv.bin k c1 c2).args[j]? = some e ∧ y = .int (e.deg : Int)) (fun _ _ _ _ h _ => h) (fun _ _ _ _ _ _ h => h) hD (SqL.of hp2) (Nat.le_trans (by rw [hl]; exact Cv.args_len _) sz2) (fun j x hx H2 e2 Q2 q2 => ?_) (fun ys H2 e2 hD2 hy hr2 => ?_)
      · obtain ⟨e, he, hxe⟩ := dpall_at hw hx
        exact ⟨_, rfl, x, e, rfl, Dp.ex e2 hxe, Cv.args_depth hn (List.mem_of_getElem? he), Cv.args_size hm (List.mem_of_getElem? he), fun H3 e3 => q2 _ _ e3 ⟨e, he, rfl⟩⟩
      · have ey := ints_map (f := fun e => (e.deg : Int)) (hy.trans hl) hr2
        rw [ey] at hD2
        have e3 := e0.trans e2
        have hq : Q (.int ((Cv.bin k c1 c2).deg : Int)) H2 := hq _ e3
        have bd : ∀ e : Cv, e ∈ (Cv.bin k c1 c2).args → Bd 16 (e.deg : Int) := fun e he => by
          have h1 := e.deg_bd
          have h2 : 2 ^ e.size ≤ 2 ^ 15 := Nat.pow_le_pow_right (by decide) (Cv.args_size hm he)
          show (e.deg : Int).natAbs < 2 ^ 16
          have h3 : (2 : Nat) ^ 15 < 2 ^ 16 := by decide
          omega
        refine ⟨_, rfl, a, _, _, _, rfl, rfl, ex_t e3 ht, rfl, rfl, _, rfl, ?_⟩
        rw [kstr.1]
        by_cases k1 : k = .times
        · subst k1
          exact iteT ⟨_, rfl, D, _, _, _, rfl, rfl, SqL.of hD2, rfl, _, rfl, D, _, _, _, rfl, rfl, SqL.of hD2, rfl, _, _, rfl, rfl, by have := hq; rw [show ((Cv.bin .times c1 c2).deg : Int) = (c1.deg : Int) + c2.deg from by simp [Cv.deg]] at this; exact this⟩
        · rw [decide_eq_false k1]
          refine iteF ⟨_, rfl, a, _, _, _, rfl, rfl, ex_t e3 ht, rfl, rfl, _, rfl, ?_⟩
          rw [kstr.2]
          by_cases k2 : k = .into
          · subst k2
            exact iteT ⟨_, rfl, D, _, _, _, rfl, rfl, SqL.of hD2, rfl, _, rfl, D, _, _, _, rfl, rfl, SqL.of hD2, rfl, _, _, rfl, rfl, (bd c1 (by simp [Cv.args])).cm (bd c2 (by simp [Cv.args])) (by decide), by have := hq; rw [show ((Cv.bin .into c1 c2).deg : Int) = (c1.deg : Int) * c2.deg from by simp [Cv.deg]] at this; exact this⟩
          · rw [decide_eq_false k2]
            refine iteF ⟨_, rfl, D, [(c1.deg : Int), (c2.deg : Int)], rfl, SqL.of hD2, (by show 0 < 2; decide), fun m h1 h2 => ?_⟩
            rw [max_two h1 h2]
            have e4 : ((Cv.bin k c1 c2).deg : Int) = max (c1.deg : Int) (c2.deg : Int) := by
              cases k with
              | times => exact absurd rfl k1
              | into => exact absurd rfl k2
              | _ => show ((max c1.deg c2.deg : Nat) : Int) = _; omega
            rw [e4] at hq
            exact hq
/-! highest -/
theorem Cv.high_eq (c : Cv) : (∀ y ∈ ((c.deg : Int) :: c.args.map fun e => (e.high : Int)), y ≤ (c.high : Int)) ∧ (c.high : Int) ∈ ((c.deg : Int) :: c.args.map fun e => (e.high : Int)) := by
  cases c with
  | num n => exact ⟨fun y hy => by simp [Cv.args] at hy; subst hy; exact Int.le_refl _, by simp [Cv.args, Cv.high]⟩
  | x => exact ⟨fun y hy => by simp [Cv.args] at hy; subst hy; exact Int.le_refl _, by simp [Cv.args, Cv.high]⟩
  | abs a =>
    have e : (Cv.abs a).high = max (Cv.abs a).deg a.high := rfl
    rw [e]
    refine ⟨fun y hy => ?_, ?_⟩
    · simp [Cv.args] at hy
      rcases hy with rfl | rfl <;> omega
    · simp [Cv.args]
      omega
  | bin k a b =>
    have e : (Cv.bin k a b).high = max (Cv.bin k a b).deg (max a.high b.high) := rfl
    rw [e]
    refine ⟨fun y hy => ?_, ?_⟩
    · simp [Cv.args] at hy
      rcases hy with rfl | rfl | rfl <;> omega
    · simp [Cv.args]
      omega
theorem sc_highest : FnScope ["curve", "part"] ["curve"] (defScope s_highest) := ⟨rfl, rfl, rfl, by decide +kernel, rfl, by decide +kernel, by decide +kernel⟩
theorem c_highest (B : Blt mg) (F : DefAt K mg "highest" s_highest) (c_parts_of : Cal P w K mg base CX0 1 "parts_of" ["curve"] (spParts K)) (c_degree : ∀ n, Cal P w K mg base CX0 (n + 2) "degree_of" ["curve"] (spCvInt K n 15 fun c => c.deg)) : ∀ n, Cal P w K mg base CX0 (n + 3) "highest" ["curve"] (spCvInt K n 15 fun c => c.high) := by
  intro n
  induction n with
  | zero =>
    obtain ⟨⟨fd, F⟩, gl⟩ := F
    refine cal_of0 F gl sc_highest (fun _ _ _ _ _ _ us hl => match us, hl with | [_], _ => rfl) (fun vs H Q E h => by obtain ⟨a, _, rfl, _⟩ := h; rfl) (fun cdv A outer s H vs Q E hr h => ?_)
    obtain ⟨v, c, rfl, hd, hn, hm, hq⟩ := h
    exact absurd hn (Nat.not_le.mpr c.depth_pos)
  | succ n c_highest =>
    obtain ⟨⟨fd, F⟩, gl⟩ := F
    have c_degree_of := c_degree (n + 1)
    refine cal_of0 F gl sc_highest (fun _ _ _ _ _ _ us hl => match us, hl with | [_], _ => rfl) (fun vs H Q E h => by obtain ⟨a, _, rfl, _⟩ := h; rfl) (fun cdv A outer s H vs Q E hr h => ?_)
    obtain ⟨v, c, rfl, hd, hn, hm, hq⟩ := h
    refine ⟨_, (pss_one (ps_ret (pe_callB (cr_max rfl) (by rfl) B.max (by decide +kernel) (pa_cons (pe_op op_cat (pe_lst (pa_cons (pe_c c_degree_of (hr.mono (by omega)) pass0 (pa_cons (pv 0) pa_nil)) pa_nil)) (pe_lc (own := [("part", 1)]) (g := gName 1) (tt := tYes) rfl sc_highest.nd (pi_list (pe_c c_parts_of (hr.mono (by omega)) pass0 (pa_cons (pv 0) pa_nil))) (blkOk_by (own := [("part", 1)]) (N := ["curve", "part"]) (sc := defScope s_highest) (by decide +kernel)) (fun _ _ _ _ _ => pg_name (i := 1) sc_highest.nd rfl (Or.inl rfl)) (fun _ _ _ _ _ => pts_nil) (fun _ _ _ _ _ => (pe_c c_highest (hr.mono (by omega)) pass0 (pa_cons (pv 1) pa_nil))))) pa_nil)))), ?_⟩
    refine ⟨_, rfl, v, c, rfl, hd, hn, hm, fun H0 e00 => ⟨(by decide : 1 ≤ sizeLine), fun p0 hp0 => ?_⟩⟩
    have e0 := e00.trans (Same.new (o := .lst [.int (c.deg : Int)]) hp0)
    refine ⟨_, rfl, v, c, rfl, Dp.ex e0 hd, fun p ws H1 e1 _ hp hw => ⟨p, rfl, ⟨_, SqL.of hp⟩, fun D hD => ?_⟩⟩
    have hl : ws.length = c.args.length := by rw [DpAll.length hw, List.length_map]
    refine lc_listR (K := K) (fun j y _ => ∃ e, c.args[j]? = some e ∧ y = .int (e.high : Int)) (fun _ _ _ _ h _ => h) (fun _ _ _ _ _ _ h => h) hD (SqL.of hp) (Nat.le_trans (by rw [hl]; exact c.args_len) sz2) (fun j x hx H2 e2 Q2 q2 => ?_) (fun ys H2 e2 hD2 hy hr2 => ?_)
    · obtain ⟨e, he, hxe⟩ := dpall_at hw hx
      exact ⟨_, rfl, x, e, rfl, Dp.ex e2 hxe, Cv.args_depth hn (List.mem_of_getElem? he), Cv.args_size hm (List.mem_of_getElem? he), fun H3 e3 => q2 _ _ e3 ⟨e, he, rfl⟩⟩
    · have ey := ints_map (f := fun e => (e.high : Int)) (hy.trans hl) hr2
      rw [ey] at hD2
      have hp0' : H2 p0 = some (.lst [.int (c.deg : Int)]) := (e1.trans e2) p0 _ upd_same
      have hlen : 1 + c.args.length ≤ sizeLine := Nat.le_trans (Nat.add_le_add_left c.args_len 1) (by decide)
      refine ⟨p0, D, _, _, rfl, rfl, hp0', hD2, (by rw [List.length_map, List.length_map]; exact hlen), fun q hq' => ⟨q, (c.deg : Int) :: c.args.map fun e => (e.high : Int), rfl, SqL.of upd_same, Nat.succ_pos _, fun m h1 h2 => ?_⟩⟩
      have h3 := c.high_eq
      have : m = (c.high : Int) := Int.le_antisymm (h3.1 m h1) (h2 _ h3.2)
      rw [this]
      exact hq _ (((e0.trans e1).trans e2).trans (Same.new hq'))
/-! is_shaped -/
theorem cvOf_num {n : Nat} {r : List PyData} : cvOf (n + 1) (.tuple (.str "num" :: r)) = (match r with
      | [.int i] => if (decide (-9 ≤ i) && decide (i ≤ 9)) = true then some (.num i) else none
      | _ => none) := by
  show (if ("num" : Str) = "num" then _ else _) = _
  rw [if_pos rfl] <;> rfl
theorem cvOf_x {n : Nat} {r : List PyData} : cvOf (n + 1) (.tuple (.str "x" :: r)) = (match r with
      | [] => some .x
      | _ => none) := by
  show (if ("x" : Str) = "num" then _ else if ("x" : Str) = "x" then _ else _) = _
  rw [if_neg nx, if_pos rfl] <;> rfl
theorem cvOf_abs {n : Nat} {r : List PyData} : cvOf (n + 1) (.tuple (.str "abs" :: r)) = (match r with
      | [a] => (cvOf n a).map .abs
      | _ => none) := by
  show (if ("abs" : Str) = "num" then _ else if ("abs" : Str) = "x" then _ else if ("abs" : Str) = "abs" then _ else _) = _
  rw [if_neg nabs.1, if_neg nabs.2, if_pos rfl] <;> rfl
theorem cvOf_else {n : Nat} {k : Str} {r : List PyData} (h1 : ¬ k = "num") (h2 : ¬ k = "x") (h3 : ¬ k = "abs") : cvOf (n + 1) (.tuple (.str k :: r)) = (match kdOf k with
      | some q => (match r with
        | [a, b] => (match cvOf n a, cvOf n b with
          | some x, some y => some (.bin q x y)
          | _, _ => none)
        | _ => none)
      | none => none) := by
  show (if k = "num" then _ else if k = "x" then _ else if k = "abs" then _ else _) = _
  rw [if_neg h1, if_neg h2, if_neg h3] <;> rfl
theorem pairs_in (k : Str) : inV (V.str k) [V.str "sum", V.str "times", V.str "max", V.str "min", V.str "into"] = (kdOf k).isSome := by
  have e : inV (V.str k) [V.str "sum", V.str "times", V.str "max", V.str "min", V.str "into"] = ((("sum" : Str) == k) || ((("times" : Str) == k) || ((("max" : Str) == k) || ((("min" : Str) == k) || ((("into" : Str) == k) || false))))) := rfl
  rw [e]
  have bq : ∀ s : Str, (s == k) = decide (k = s) := fun s => by
    by_cases h : k = s
    · subst h; simp
    · rw [decide_eq_false h]
      exact beq_eq_false_iff_ne.mpr (fun z => h z.symm)
  rw [bq, bq, bq, bq, bq]
  unfold kdOf
  by_cases h1 : k = "sum"
  · rw [decide_eq_true h1, if_pos h1]; rfl
  · rw [decide_eq_false h1, if_neg h1]
    by_cases h2 : k = "times"
    · rw [decide_eq_true h2, if_pos h2]; rfl
    · rw [decide_eq_false h2, if_neg h2]
      by_cases h3 : k = "max"
      · rw [decide_eq_true h3, if_pos h3]; rfl
      · rw [decide_eq_false h3, if_neg h3]
        by_cases h4 : k = "min"
        · rw [decide_eq_true h4, if_pos h4]; rfl
        · rw [decide_eq_false h4, if_neg h4]
          by_cases h5 : k = "into"
          · rw [decide_eq_true h5, if_pos h5]; rfl
          · rw [decide_eq_false h5, if_neg h5]; rfl
theorem dec_str' (a b : Str) : decide (V.str a = V.str b) = decide (a = b) := by
  by_cases h : a = b
  · subst h; simp
  · rw [decide_eq_false h, decide_eq_false (fun z => h (by injection z))]
theorem dec_int' (a b : Int) : decide (V.int a = V.int b) = decide (a = b) := by
  by_cases h : a = b
  · subst h; simp
  · rw [decide_eq_false h, decide_eq_false (fun z => h (by injection z))]
theorem sc_is_shaped : FnScope ["value", "deep", "one"] ["value", "deep"] (defScope s_is_shaped) := ⟨rfl, rfl, rfl, by decide +kernel, rfl, by decide +kernel, by decide +kernel⟩
def spShaped (K : PySem.W.Frag) (n : Nat) : Sp := fun vs H Q _ => ∃ (v : V) (d : PyData), vs = [v, .int n] ∧ Dp K H v d ∧ SeqAt.shaped d = true ∧ ∀ H', Same H H' → Q (.bl (cvOf n d).isSome) H'
theorem nil_eqv (d : PyData) (ds : List PyData) : PyData.eqv (.tuple (d :: ds)) (.tuple []) = false := rfl
theorem c_is_shaped (B : Blt mg) (F : DefAt K mg "is_shaped" s_is_shaped) (c_is_whole : Cal P w K mg base CX0 1 "is_whole" ["value", "low", "high"] (spWhole K)) {aP : Addr} (g_PAIRS : mg "PAIRS" = some (.ref aP)) (hP : ∀ H, SqT K H aP [V.str "sum", V.str "times", V.str "max", V.str "min", V.str "into"]) :
    ∀ n, Cal P w K mg base CX0 (n + 2) "is_shaped" ["value", "deep"] (spShaped K n) := by
  intro n
  induction n with
  | zero =>
    obtain ⟨⟨fd, F⟩, gl⟩ := F
    have c_is_shaped : Cal P w K mg base CX0 0 "is_shaped" ["value", "deep"] (fun _ _ _ _ => False) := ⟨⟨fd, ⟨fun _ _ _ _ h => h.elim, fun _ _ _ _ _ _ _ _ _ _ _ _ _ h => h.elim⟩, F.bindsN (fun _ _ _ _ _ _ us hl => match us, hl with | [_, _], _ => rfl)⟩, F.kp, gl⟩
    refine cal_of0 F gl sc_is_shaped (fun _ _ _ _ _ _ us hl => match us, hl with | [_, _], _ => rfl) (fun vs H Q E h => by obtain ⟨a, _, rfl, _⟩ := h; rfl) (fun cdv A outer s H vs Q E hr h => ?_)
    obtain ⟨v, d, rfl, hd, hs, hq⟩ := h
    refine ⟨_, (pss_cons (ps_if (PW.pt (pw_or (pt_cmpR op_eq (pv 1) pe_int (nomark _)) (pw_or (pt_not (pt_val (pe_callB call_isi (by rfl) B.isinstance (by decide +kernel) (pa_cons (pv 0) (pa_cons (pe_bltn (v := .ty "tuple") (by rfl) B.tuple (by decide +kernel) rfl) pa_nil))))) (pw_or (pt_cmpR (op_eqD hr.units) (pv 0) (pe_tup pa_nil) (nomark _)) (pw_or1 (pt_not (pt_val (pe_callB call_isi (by rfl) B.isinstance (by decide +kernel) (pa_cons (pe_ix ix_tup (pv 0) pe_int (fun _ _ => rfl)) (pa_cons (pe_bltn (v := .ty "str") (by rfl) B.str (by decide +kernel) rfl) pa_nil))))))))))
        (pss_one (ps_ret pe_bl))
        pss_nil)
      (pss_cons (ps_if (pt_cmpR op_eq (pe_ix ix_tup (pv 0) pe_int (fun _ _ => rfl)) pe_str (nomark _))
        (pss_one (ps_ret (pe_and (pe_cmpR op_eq (pe_callB call_len (by rfl) B.len (by decide +kernel) (pa_cons (pv 0) pa_nil)) pe_int (nomark _)) (pe_one (pe_c c_is_whole (hr.mono (by omega)) pass0 (pa_cons (pe_ix ix_tup (pv 0) pe_int (fun _ _ => rfl)) (pa_cons (pe_un un_neg pe_int) (pa_cons pe_int pa_nil))))))))
        pss_nil)
      (pss_cons (ps_if (pt_cmpR op_eq (pe_ix ix_tup (pv 0) pe_int (fun _ _ => rfl)) pe_str (nomark _))
        (pss_one (ps_ret (pe_cmpR op_eq (pe_callB call_len (by rfl) B.len (by decide +kernel) (pa_cons (pv 0) pa_nil)) pe_int (nomark _))))
        pss_nil)
      (pss_cons (ps_if (pt_cmpR op_eq (pe_ix ix_tup (pv 0) pe_int (fun _ _ => rfl)) pe_str (nomark _))
        (pss_one (ps_ret (pe_and (pe_cmpR op_eq (pe_callB call_len (by rfl) B.len (by decide +kernel) (pa_cons (pv 0) pa_nil)) pe_int (nomark _)) (pe_one (pe_c c_is_shaped (hr.mono (by omega)) pass0 (pa_cons (pe_ix ix_tup (pv 0) pe_int (fun _ _ => rfl)) (pa_cons (pe_op op_sub (pv 1) pe_int) pa_nil)))))))
        pss_nil)
      (pss_one (ps_ret (pe_and (pe_cmpR op_in_seq (pe_ix ix_tup (pv 0) pe_int (fun _ _ => rfl)) (pe_glob (v := .ref aP) (by rfl) g_PAIRS rfl) (by rfl)) (pe_and (pe_cmpR op_eq (pe_callB call_len (by rfl) B.len (by decide +kernel) (pa_cons (pv 0) pa_nil)) pe_int (nomark _)) (pe_one (pe_callB (cr_all rfl) (by rfl) B.all (by decide +kernel) (pa_cons (pe_lc (own := [("one", 2)]) (g := gName 2) (tt := tYes) rfl sc_is_shaped.nd (pi_tup (pe_slice sl_tupA (pv 0) (po_some pe_int) po_none)) (blkOk_by (own := [("one", 2)]) (N := ["value", "deep", "one"]) (sc := defScope s_is_shaped) (by decide +kernel)) (fun _ _ _ _ _ => pg_name (i := 2) sc_is_shaped.nd rfl (Or.inl rfl)) (fun _ _ _ _ _ => pts_nil) (fun _ _ _ _ _ => (pe_c c_is_shaped (hr.mono (by omega)) pass0 (pa_cons (pv 2) (pa_cons (pe_op op_sub (pv 1) pe_int) pa_nil))))) pa_nil))))))))))), ?_⟩
    exact ⟨_, rfl, rfl, _, rfl, iteT (hq _ (Same.refl _))⟩
  | succ n c_is_shaped =>
    obtain ⟨⟨fd, F⟩, gl⟩ := F
    refine cal_of0 F gl sc_is_shaped (fun _ _ _ _ _ _ us hl => match us, hl with | [_, _], _ => rfl) (fun vs H Q E h => by obtain ⟨a, _, rfl, _⟩ := h; rfl) (fun cdv A outer s H vs Q E hr h => ?_)
    obtain ⟨v, d, rfl, hd, hs, hq⟩ := h
    refine ⟨_, (pss_cons (ps_if (PW.pt (pw_or (pt_cmpR op_eq (pv 1) pe_int (nomark _)) (pw_or (pt_not (pt_val (pe_callB call_isi (by rfl) B.isinstance (by decide +kernel) (pa_cons (pv 0) (pa_cons (pe_bltn (v := .ty "tuple") (by rfl) B.tuple (by decide +kernel) rfl) pa_nil))))) (pw_or (pt_cmpR (op_eqD hr.units) (pv 0) (pe_tup pa_nil) (nomark _)) (pw_or1 (pt_not (pt_val (pe_callB call_isi (by rfl) B.isinstance (by decide +kernel) (pa_cons (pe_ix ix_tup (pv 0) pe_int (fun _ _ => rfl)) (pa_cons (pe_bltn (v := .ty "str") (by rfl) B.str (by decide +kernel) rfl) pa_nil))))))))))
        (pss_one (ps_ret pe_bl))
        pss_nil)
      (pss_cons (ps_if (pt_cmpR op_eq (pe_ix ix_tup (pv 0) pe_int (fun _ _ => rfl)) pe_str (nomark _))
        (pss_one (ps_ret (pe_and (pe_cmpR op_eq (pe_callB call_len (by rfl) B.len (by decide +kernel) (pa_cons (pv 0) pa_nil)) pe_int (nomark _)) (pe_one (pe_c c_is_whole (hr.mono (by omega)) pass0 (pa_cons (pe_ix ix_tup (pv 0) pe_int (fun _ _ => rfl)) (pa_cons (pe_un un_neg pe_int) (pa_cons pe_int pa_nil))))))))
        pss_nil)
      (pss_cons (ps_if (pt_cmpR op_eq (pe_ix ix_tup (pv 0) pe_int (fun _ _ => rfl)) pe_str (nomark _))
        (pss_one (ps_ret (pe_cmpR op_eq (pe_callB call_len (by rfl) B.len (by decide +kernel) (pa_cons (pv 0) pa_nil)) pe_int (nomark _))))
        pss_nil)
      (pss_cons (ps_if (pt_cmpR op_eq (pe_ix ix_tup (pv 0) pe_int (fun _ _ => rfl)) pe_str (nomark _))
        (pss_one (ps_ret (pe_and (pe_cmpR op_eq (pe_callB call_len (by rfl) B.len (by decide +kernel) (pa_cons (pv 0) pa_nil)) pe_int (nomark _)) (pe_one (pe_c c_is_shaped (hr.mono (by omega)) pass0 (pa_cons (pe_ix ix_tup (pv 0) pe_int (fun _ _ => rfl)) (pa_cons (pe_op op_sub (pv 1) pe_int) pa_nil)))))))
        pss_nil)
      (pss_one (ps_ret (pe_and (pe_cmpR op_in_seq (pe_ix ix_tup (pv 0) pe_int (fun _ _ => rfl)) (pe_glob (v := .ref aP) (by rfl) g_PAIRS rfl) (by rfl)) (pe_and (pe_cmpR op_eq (pe_callB call_len (by rfl) B.len (by decide +kernel) (pa_cons (pv 0) pa_nil)) pe_int (nomark _)) (pe_one (pe_callB (cr_all rfl) (by rfl) B.all (by decide +kernel) (pa_cons (pe_lc (own := [("one", 2)]) (g := gName 2) (tt := tYes) rfl sc_is_shaped.nd (pi_tup (pe_slice sl_tupA (pv 0) (po_some pe_int) po_none)) (blkOk_by (own := [("one", 2)]) (N := ["value", "deep", "one"]) (sc := defScope s_is_shaped) (by decide +kernel)) (fun _ _ _ _ _ => pg_name (i := 2) sc_is_shaped.nd rfl (Or.inl rfl)) (fun _ _ _ _ _ => pts_nil) (fun _ _ _ _ _ => (pe_c c_is_shaped (hr.mono (by omega)) pass0 (pa_cons (pv 2) (pa_cons (pe_op op_sub (pv 1) pe_int) pa_nil))))) pa_nil))))))))))), ?_⟩
    have hsub : ((n + 1 : Nat) : Int) - 1 = (n : Int) := by omega
    refine ⟨_, rfl, rfl, _, rfl, ?_⟩
    rw [decide_eq_false (show ¬ V.int ((n + 1 : Nat) : Int) = V.int 0 from fun z => by injection z with z; omega)]
    refine iteF ?_
    cases d with
    | tuple ds =>
      cases hd with
      | @tup a xs _ ht ha =>
      refine ⟨_, rfl, _, _, _, _, true, rfl, .ty _, ty_tup ht, kit_ty (by decide +kernel), true, rfl, iteF ?_⟩
      refine ⟨_, rfl, Nat.zero_le _, fun p hp => ⟨_, _, .tup (ex_t (Same.new hp) ht) (DpAll.ex (Same.new hp) ha), .tup (SqT.of upd_same) .nil, hs, rfl, _, rfl, ?_⟩⟩
      have e1 : Same H (upd H p (.tup [])) := Same.new hp
      cases ha with
      | nil => exact iteT (hq _ e1)
      | @cons v0 vs d0 ds h0 ha =>
      rw [nil_eqv]
      refine iteF ⟨_, rfl, a, _, _, _, rfl, rfl, ex_t e1 ht, at0, ?_⟩
      cases d0 with
      | str k =>
        cases h0
        refine ⟨_, _, _, _, true, rfl, .ty _, .base (.str k), kit_ty (by decide +kernel), true, rfl, iteF ?_⟩
        refine ⟨_, rfl, a, _, _, _, rfl, rfl, ex_t e1 ht, at0, rfl, _, rfl, ?_⟩
        rw [dec_str']
        by_cases k1 : k = "num"
        · subst k1
          rw [decide_eq_true rfl]
          rw [cvOf_num] at hq
          refine iteT ⟨_, rfl, _, _, rfl, .inr ⟨_, ex_t e1 ht, rfl⟩, rfl, ?_⟩
          cases ha with
          | nil => exact ⟨false, rfl, iteF (hq _ e1)⟩
          | @cons v1 vs d1 ds h1 ha =>
          cases ha with
          | @cons v2 vs d2 ds h2 ha =>
            have e : decide (V.int (((vs.length + 1 + 1 + 1 : Nat)) : Int) = V.int 2) = false := decide_eq_false (fun z => by injection z with z; omega)
            refine ⟨false, congrArg V.bl e, iteF ?_⟩
            have := hq _ e1
            cases d1 <;> exact this
          | nil =>
            refine ⟨true, rfl, iteT ⟨_, rfl, a, _, _, v1, rfl, rfl, ex_t e1 ht, rfl, _, rfl, v1, d1, _, _, rfl, Dp.ex e1 h1, ?_⟩⟩
            have := hq _ e1
            cases d1 with
            | int i =>
              have e : (match [PyData.int i] with
                | [.int i] => if (decide (-9 ≤ i) && decide (i ≤ 9)) = true then some (Cv.num i) else none
                | _ => none).isSome = wholeM (.int i) (-9) 9 := by
                show (if (decide (-9 ≤ i) && decide (i ≤ 9)) = true then some (Cv.num i) else none).isSome = (decide (-9 ≤ i) && decide (i ≤ 9))
                cases (decide (-9 ≤ i) && decide (i ≤ 9)) <;> rfl
              rw [e] at this
              exact this
            | _ => exact this
        · rw [decide_eq_false k1]
          refine iteF ⟨_, rfl, a, _, _, _, rfl, rfl, ex_t e1 ht, at0, rfl, _, rfl, ?_⟩
          rw [dec_str']
          by_cases k2 : k = "x"
          · subst k2
            rw [decide_eq_true rfl]
            rw [cvOf_x] at hq
            refine iteT ⟨_, rfl, _, _, rfl, .inr ⟨_, ex_t e1 ht, rfl⟩, rfl, ?_⟩
            cases ha with
            | nil => exact hq _ e1
            | @cons v1 vs d1 ds h1 ha =>
              have e : decide (V.int (((vs.length + 1 + 1 : Nat)) : Int) = V.int 1) = false := decide_eq_false (fun z => by injection z with z; omega)
              show Q (.bl (decide (V.int (((vs.length + 1 + 1 : Nat)) : Int) = V.int 1))) _
              rw [e]
              exact hq _ e1
          · rw [decide_eq_false k2]
            refine iteF ⟨_, rfl, a, _, _, _, rfl, rfl, ex_t e1 ht, at0, rfl, _, rfl, ?_⟩
            rw [dec_str']
            by_cases k3 : k = "abs"
            · subst k3
              rw [decide_eq_true rfl]
              rw [cvOf_abs] at hq
              refine iteT ⟨_, rfl, _, _, rfl, .inr ⟨_, ex_t e1 ht, rfl⟩, rfl, ?_⟩
              cases ha with
              | nil => exact ⟨false, rfl, iteF (hq _ e1)⟩
              | @cons v1 vs d1 ds h1 ha =>
              cases ha with
              | @cons v2 vs d2 ds h2 ha =>
                have e : decide (V.int (((vs.length + 1 + 1 + 1 : Nat)) : Int) = V.int 2) = false := decide_eq_false (fun z => by injection z with z; omega)
                exact ⟨false, congrArg V.bl e, iteF (hq _ e1)⟩
              | nil =>
                refine ⟨true, rfl, iteT ⟨_, rfl, a, _, _, v1, rfl, rfl, ex_t e1 ht, rfl, _, rfl, _, _, rfl, rfl, v1, d1, congrArg (fun z => [v1, V.int z]) hsub, Dp.ex e1 h1, shaped_item hs (by simp), fun H' e2 => ?_⟩⟩
                have this : Q (.bl ((cvOf n d1).map Cv.abs).isSome) H' := hq _ (e1.trans e2)
                rw [show ((cvOf n d1).map Cv.abs).isSome = (cvOf n d1).isSome from by cases cvOf n d1 <;> rfl] at this
                exact this
            · rw [decide_eq_false k3]
              refine iteF ⟨_, rfl, a, _, _, _, rfl, rfl, ex_t e1 ht, at0, aP, _, rfl, .inr (hP _), rfl, rfl, ?_⟩
              rw [cvOf_else k1 k2 k3] at hq
              show ∃ c, V.bl (inV (V.str k) [V.str "sum", V.str "times", V.str "max", V.str "min", V.str "into"]) = V.bl c ∧ _
              rw [pairs_in]
              refine ⟨_, rfl, ?_⟩
              cases q : kdOf k with
              | none =>
                rw [q] at hq
                exact iteF (hq _ e1)
              | some kd =>
                rw [q] at hq
                refine iteT ⟨_, rfl, _, _, rfl, .inr ⟨_, ex_t e1 ht, rfl⟩, rfl, ?_⟩
                cases ha with
                | nil => exact ⟨false, rfl, iteF (hq _ e1)⟩
                | @cons v1 vs d1 ds h1 ha =>
                cases ha with
                | nil => exact ⟨false, rfl, iteF (hq _ e1)⟩
                | @cons v2 vs d2 ds h2 ha =>
                cases ha with
                | @cons v3 vs d3 ds h3 ha =>
                  have e : decide (V.int (((vs.length + 1 + 1 + 1 + 1 : Nat)) : Int) = V.int 3) = false := decide_eq_false (fun z => by injection z with z; omega)
                  exact ⟨false, congrArg V.bl e, iteF (hq _ e1)⟩
                | nil =>
                  refine ⟨true, rfl, iteT ⟨_, rfl, 1, rfl, a, _, rfl, ex_t e1 ht, (fun z => absurd (show HT.sIx 3 0 (some 1) = 0 from z.1) (by decide)), fun _ p2 hp2 => ⟨p2, rfl, ⟨_, SqT.of upd_same⟩, fun D hD => ?_⟩⟩⟩
                  have e2 := e1.trans (Same.new (o := .tup [v1, v2]) hp2)
                  refine lc_tupR (K := K) (xs := [v1, v2]) (fun j y _ => ∃ e, [d1, d2][j]? = some e ∧ y = .bl (cvOf n e).isSome) (fun _ _ _ _ h _ => h) (fun _ _ _ _ _ _ h => h) hD (SqT.of upd_same) sz2 (fun j x hx H2 e3 Q2 q2 => ?_) (fun ys H2 e3 hD2 hy hr2 => ?_)
                  · have hd2 : DpAll K H [v1, v2] [d1, d2] := .cons h1 (.cons h2 .nil)
                    obtain ⟨e, he, hxe⟩ := DpAll.get hd2 hx
                    refine ⟨_, rfl, _, rfl, _, _, rfl, rfl, x, e, congrArg (fun z => [x, V.int z]) hsub, Dp.ex (e2.trans e3) hxe, shaped_item hs ?_, fun H3 e4 => q2 _ _ e4 ⟨e, he, rfl⟩⟩
                    have := List.mem_of_getElem? he
                    exact List.mem_cons_of_mem _ this
                  · have ey : ys = ([d1, d2].map fun e => (cvOf n e).isSome).map V.bl := by
                      rw [List.map_map]
                      refine vals_map hy fun j x y hx hy' => ?_
                      obtain ⟨e, h5, h6⟩ := hr2 j y hy'
                      rw [hx] at h5
                      cases h5
                      exact h6
                    refine ⟨D, _, rfl, SqL.of (by rw [hD2, ey]), ?_⟩
                    have this := hq _ (e2.trans e3)
                    show Q (.bl (([d1, d2].map fun e => (cvOf n e).isSome).all id)) H2
                    revert this
                    show Q (.bl (match cvOf n d1, cvOf n d2 with
                      | some x, some y => some (Cv.bin kd x y)
                      | _, _ => none).isSome) H2 → Q (.bl ((cvOf n d1).isSome && ((cvOf n d2).isSome && true))) H2
                    cases cvOf n d1 <;> cases cvOf n d2 <;> exact fun z => z
      | _ =>
        first
          | exact ⟨_, _, _, _, false, rfl, .ty _, ty_d (Dp.ex e1 h0), kit_ty (by decide +kernel), false, rfl, iteT (hq _ e1)⟩
    | _ => exact ⟨_, rfl, _, _, _, _, false, rfl, .ty _, ty_d hd, kit_ty (by decide +kernel), false, rfl, iteT (hq _ (Same.refl _))⟩
/-! is_curve -/
theorem sc_is_curve : FnScope ["value"] ["value"] (defScope s_is_curve) := ⟨rfl, rfl, rfl, by decide +kernel, rfl, by decide +kernel, by decide +kernel⟩
def spIsCurve (K : PySem.W.Frag) : Sp := fun vs H Q _ => ∃ (v : V) (d : PyData), vs = [v] ∧ Dp K H v d ∧ SeqAt.shaped d = true ∧ ∀ H', Same H H' → Q (.bl (isCurveM d)) H'
theorem c_is_curve (F : DefAt K mg "is_curve" s_is_curve) {t1 t2 : Tok} (g_MOST_PARTS : mg "MOST_PARTS" = some (.int 15 t1)) (g_MOST_DEGREE : mg "MOST_DEGREE" = some (.int 6 t2))
    (c_shaped : ∀ n, Cal P w K mg base CX0 (n + 2) "is_shaped" ["value", "deep"] (spShaped K n)) (c_size : ∀ m n, Cal P w K mg base CX0 (n + 2) "size_of" ["curve"] (spCvInt K n m fun c => c.size)) (c_high : ∀ n, Cal P w K mg base CX0 (n + 3) "highest" ["curve"] (spCvInt K n 15 fun c => c.high)) :
    Cal P w K mg base CX0 19 "is_curve" ["value"] (spIsCurve K) := by
  obtain ⟨⟨fd, F⟩, gl⟩ := F
  refine cal_of0 F gl sc_is_curve (fun _ _ _ _ _ _ us hl => match us, hl with | [_], _ => rfl) (fun vs H Q E h => by obtain ⟨a, _, rfl, _⟩ := h; rfl) (fun cdv A outer s H vs Q E hr h => ?_)
  obtain ⟨v, d, rfl, hd, hs, hq⟩ := h
  have c_is_shaped := c_shaped 15
  have c_highest := c_high 15
  cases e : cvOf 15 d with
  | none =>
    have c_size_of := c_size 0 15
    refine ⟨_, (pss_one (ps_ret (pe_and (pe_c c_is_shaped (hr.mono (by omega)) pass0 (pa_cons (pv 0) (pa_cons (pe_glob (v := .int 15) (by rfl) g_MOST_PARTS ⟨_, rfl⟩) pa_nil))) (pe_and (pe_cmpR op_le (pe_c c_size_of (hr.mono (by omega)) pass0 (pa_cons (pv 0) pa_nil)) (pe_glob (v := .int 15) (by rfl) g_MOST_PARTS ⟨_, rfl⟩) (nomark _)) (pe_one (pe_cmpR op_le (pe_c c_highest (hr.mono (by omega)) pass0 (pa_cons (pv 0) pa_nil)) (pe_glob (v := .int 6) (by rfl) g_MOST_DEGREE ⟨_, rfl⟩) (nomark _))))))), ?_⟩
    refine ⟨_, rfl, v, d, rfl, hd, hs, fun H1 e1 => ⟨_, rfl, ?_⟩⟩
    have := hq _ e1
    unfold isCurveM at this
    rw [e] at this ⊢
    exact iteF this
  | some c =>
    have c_size_of := c_size c.size 15
    refine ⟨_, (pss_one (ps_ret (pe_and (pe_c c_is_shaped (hr.mono (by omega)) pass0 (pa_cons (pv 0) (pa_cons (pe_glob (v := .int 15) (by rfl) g_MOST_PARTS ⟨_, rfl⟩) pa_nil))) (pe_and (pe_cmpR op_le (pe_c c_size_of (hr.mono (by omega)) pass0 (pa_cons (pv 0) pa_nil)) (pe_glob (v := .int 15) (by rfl) g_MOST_PARTS ⟨_, rfl⟩) (nomark _)) (pe_one (pe_cmpR op_le (pe_c c_highest (hr.mono (by omega)) pass0 (pa_cons (pv 0) pa_nil)) (pe_glob (v := .int 6) (by rfl) g_MOST_DEGREE ⟨_, rfl⟩) (nomark _))))))), ?_⟩
    obtain ⟨h1, h2, h3⟩ := cvOf_d e
    refine ⟨_, rfl, v, d, rfl, hd, hs, fun H1 e1 => ⟨_, rfl, ?_⟩⟩
    rw [e]
    have hm : ∀ H', Same H H' → Q (.bl c.ok) H' := fun H' e' => by
      have := hq _ e'
      unfold isCurveM at this
      rw [e] at this
      exact this
    refine iteT ⟨_, rfl, v, c, rfl, h1 ▸ Dp.ex e1 hd, h2, Nat.le_refl _, fun H2 e2 => ⟨_, _, rfl, rfl, ?_⟩⟩
    by_cases hz : c.size ≤ 15
    · refine ⟨true, congrArg V.bl (decide_eq_true (show (c.size : Int) ≤ 15 by omega)), iteT ⟨_, rfl, v, c, rfl, h1 ▸ Dp.ex (e1.trans e2) hd, h2, hz, fun H3 e3 => ⟨_, _, rfl, rfl, ?_⟩⟩⟩
      have := hm _ ((e1.trans e2).trans e3)
      rw [show c.ok = decide ((c.high : Int) ≤ 6) from by
        show (decide (c.size ≤ 15) && decide (c.high ≤ 6)) = _
        rw [decide_eq_true hz, Bool.true_and]
        by_cases h : c.high ≤ 6
        · rw [decide_eq_true h, decide_eq_true (by omega)]
        · rw [decide_eq_false h, decide_eq_false (by omega)]] at this
      exact this
    · refine ⟨false, congrArg V.bl (decide_eq_false (show ¬ (c.size : Int) ≤ 15 by omega)), iteF ?_⟩
      have := hm _ (e1.trans e2)
      rw [show c.ok = false from by
        show (decide (c.size ≤ 15) && decide (c.high ≤ 6)) = _
        rw [decide_eq_false hz, Bool.false_and]] at this
      exact this
/-! need_curve, where it is one -/
theorem sc_need_curve : FnScope ["curve"] ["curve"] (defScope s_need_curve) := ⟨rfl, rfl, rfl, by decide +kernel, rfl, by decide +kernel, by decide +kernel⟩
def spNeed0 (K : PySem.W.Frag) : Sp := fun vs H Q _ => ∃ (v : V) (d : PyData), vs = [v] ∧ Dp K H v d ∧ SeqAt.shaped d = true ∧ isCurveM d = true ∧ ∀ H', Same H H' → Q .non H'
theorem c_need_curve0 (F : DefAt K mg "need_curve" s_need_curve) (c_is_curve : Cal P w K mg base CX0 19 "is_curve" ["value"] (spIsCurve K)) : Cal P w K mg base CX0 20 "need_curve" ["curve"] (spNeed0 K) := by
  obtain ⟨⟨fd, F⟩, gl⟩ := F
  refine cal_of0 F gl sc_need_curve (fun _ _ _ _ _ _ us hl => match us, hl with | [_], _ => rfl) (fun vs H Q E h => by obtain ⟨a, _, rfl, _⟩ := h; rfl) (fun cdv A outer s H vs Q E hr h => ?_)
  obtain ⟨v, d, rfl, hd, hs, hc, hq⟩ := h
  refine ⟨_, (pss_one (ps_if (pt_not (pt_val (pe_c c_is_curve (hr.mono (by omega)) pass0 (pa_cons (pv 0) pa_nil))))
        (pss_one ps_never)
        pss_nil)), ?_⟩
  refine ⟨_, rfl, v, d, rfl, hd, hs, fun H1 e1 => ⟨_, rfl, ?_⟩⟩
  rw [hc]
  exact iteF (hq _ e1)
end
end Bc
set_option Elab.async false
set_option linter.all false
set_option maxRecDepth 100000
set_option maxHeartbeats 4000000
namespace Bc
open PySem PySem.Spec PyProof.Rows L2
/-! ### exceptions -/
structure ExcAt (K : PySem.W.Frag) (mg : Str → Option Value) (nm : Str) : Prop where
  g : mg nm = some (.ref (He.ga K nm))
  x : PySem.W.excIn K (He.ga K nm) He.veBase "ValueError.__new__" = true
  k : PySem.W.keepIn K (.ref (He.ga K nm)) = true
  b : PySem.W.subIn K (.ref (He.ga K nm)) (.type "BaseException") = some true
  t : PySem.W.typeIn K (.ref (He.ga K nm)) = some (.type "type")
theorem passF {P : Program} {w : World} {X : Cx} : Passes (CX P w) X E0 := fun _ _ _ _ _ _ _ h => by
  obtain ⟨_, _, _, _, _, _, _, _, _, _, _, _, h⟩ := h
  exact h.elim
section
variable {P : Program} {w : World} {K : PySem.W.Frag} {mg : Str → Option Value} {base : Heap}
def iC (K : PySem.W.Frag) : Value := .ref (He.ga K "InvalidCurve")
def iN (K : PySem.W.Frag) : Value := .ref (He.ga K "InvalidNumber")
def spNeed (K : PySem.W.Frag) : Sp := fun vs H Q E => ∃ (v : V) (d : PyData), vs = [v] ∧ Dp K H v d ∧ SeqAt.shaped d = true ∧ (isCurveM d = true → ∀ H', Same H H' → Q .non H') ∧ (isCurveM d = false → ∀ H', Same H H' → E (iC K) none H')
theorem c_need_curve (x_InvalidCurve : ExcAt K mg "InvalidCurve") (F : DefAt K mg "need_curve" s_need_curve) (c_is_curve : Cal P w K mg base CX0 19 "is_curve" ["value"] (spIsCurve K)) : Cal P w K mg base (CX P w) 20 "need_curve" ["curve"] (spNeed K) := by
  obtain ⟨⟨fd, F⟩, gl⟩ := F
  refine cal_of F gl sc_need_curve (fun _ _ _ _ _ _ us hl => match us, hl with | [_], _ => rfl) (fun vs H Q E h => by obtain ⟨a, _, rfl, _⟩ := h; rfl) (fun cdv A outer s H vs Q E hr h => ?_)
  obtain ⟨v, d, rfl, hd, hs, hc, hn⟩ := h
  refine ⟨_, (pss_one (ps_if (pt_not (pt_val (pe_c c_is_curve (hr.mono (by omega)) pass0 (pa_cons (pv 0) pa_nil))))
        (pss_one (L2N.ps_raise rfl (L2N.takes_of rfl rfl rfl rfl) (L2N.pmk_own PySem.F.excBase_ValueError x_InvalidCurve.x x_InvalidCurve.g x_InvalidCurve.k (raises_own x_InvalidCurve.b x_InvalidCurve.t) rfl)))
        pss_nil)), ?_⟩
  refine ⟨_, rfl, v, d, rfl, hd, hs, fun H1 e1 => ⟨_, rfl, ?_⟩⟩
  cases hm : isCurveM d with
  | true => exact iteF (hc hm _ e1)
  | false => exact iteT (hn hm _ e1)
end
end Bc
set_option Elab.async false
set_option linter.all false
set_option maxRecDepth 100000
set_option maxHeartbeats 4000000
namespace Bc
open PySem PySem.Spec PyProof.Rows L2
theorem ok_depth {c : Cv} (h : c.ok = true) : c.depth ≤ 15 := by
  have h1 : c.size ≤ 15 := by
    unfold Cv.ok at h
    rw [Bool.and_eq_true] at h
    exact of_decide_eq_true h.1
  exact Nat.le_trans c.depth_size h1
theorem lay_s : PyData.canLay0 (.str "num") = true ∧ PyData.canLay0 (.str "x") = true ∧ PyData.canLay0 (.str "abs") = true ∧ ∀ k : Kd, PyData.canLay0 (.str k.s) = true := by
  refine ⟨by decide +kernel, by decide +kernel, by decide +kernel, fun k => ?_⟩
  cases k <;> decide +kernel
theorem canLay_d : ∀ c : Cv, PyData.canLay0 c.d = true
  | .num n => by
    show (PyData.canLay0 (.str "num") && (true && true)) = true
    rw [lay_s.1]; rfl
  | .x => by
    show (PyData.canLay0 (.str "x") && true) = true
    rw [lay_s.2.1]; rfl
  | .abs a => by
    show (PyData.canLay0 (.str "abs") && (PyData.canLay0 a.d && true)) = true
    rw [canLay_d a, lay_s.2.2.1]; rfl
  | .bin k a b => by
    show (PyData.canLay0 (.str k.s) && (PyData.canLay0 a.d && (PyData.canLay0 b.d && true))) = true
    rw [canLay_d a, canLay_d b, lay_s.2.2.2]; rfl
theorem depth_d : ∀ c : Cv, PyData.depth c.d ≤ c.depth
  | .num n => (by decide : 1 ≤ 1)
  | .x => (by decide : 1 ≤ 1)
  | .abs a => by
    have := depth_d a
    show max 0 (max (PyData.depth a.d) 0) + 1 ≤ a.depth + 1
    omega
  | .bin k a b => by
    have := depth_d a
    have := depth_d b
    show max 0 (max (PyData.depth a.d) (max (PyData.depth b.d) 0)) + 1 ≤ max a.depth b.depth + 1
    omega
theorem shaped_d {c : Cv} (h : c.depth ≤ 60) : SeqAt.shaped c.d = true := by
  show (PyData.canLay0 c.d && decide (PyData.depth c.d ≤ 64)) = true
  have := depth_d c
  rw [canLay_d, decide_eq_true (by omega)]
  rfl
theorem isCurveM_true {d : PyData} (h : isCurveM d = true) : ∃ c : Cv, d = c.d ∧ c.in9 = true ∧ c.ok = true ∧ c.depth ≤ 15 := by
  unfold isCurveM at h
  split at h
  · rename_i c hc
    obtain ⟨h1, h2, h3⟩ := cvOf_d hc
    exact ⟨c, h1, h3, h, h2⟩
  · cases h
def pub1 (K : PySem.W.Frag) (G : Cv → Hp → VK → Prop) : Sp := fun vs H Q E => ∃ (v : V) (d : PyData), vs = [v] ∧ Dp K H v d ∧ SeqAt.shaped d = true ∧ (isCurveM d = false → ∀ H', Same H H' → E (iC K) none H') ∧ (∀ c : Cv, d = c.d → c.in9 = true → c.ok = true → ∀ H', Same H H' → G c H' Q)
def pub2 (K : PySem.W.Frag) (G : Cv → Cv → Hp → VK → Prop) : Sp := fun vs H Q E => ∃ (v u : V) (d e : PyData), vs = [v, u] ∧ Dp K H v d ∧ SeqAt.shaped d = true ∧ (isCurveM d = false → ∀ H', Same H H' → E (iC K) none H') ∧
  (isCurveM d = true → Dp K H u e ∧ SeqAt.shaped e = true ∧ (isCurveM e = false → ∀ H', Same H H' → E (iC K) none H') ∧ (∀ c c' : Cv, d = c.d → e = c'.d → c.in9 = true → c.ok = true → c'.in9 = true → c'.ok = true → ∀ H', Same H H' → G c c' H' Q))
theorem dFr_inj {p q : Int × Int} (h : dFr p = dFr q) : p = q := by
  obtain ⟨a, b⟩ := p
  obtain ⟨c, d⟩ := q
  simp only [dFr, PyData.tuple.injEq, List.cons.injEq, PyData.int.injEq] at h
  rw [h.1, h.2.1]
theorem IsFr.of_dp {K : PySem.W.Frag} {H : Hp} {v : V} {p : Int × Int} (h : Dp K H v (dFr p)) : IsFr K H v p := by
  cases h with
  | tup h a => cases a with
    | cons h1 a => cases a with
      | cons h2 a => cases a; cases h1; cases h2; exact ⟨_, rfl, h⟩
section
variable {K : PySem.W.Frag}
theorem pub1_len {G : Cv → Hp → VK → Prop} {vs : List V} {H : Hp} {Q : VK} {E : XK} (h : pub1 K G vs H Q E) : vs.length = 1 := by obtain ⟨_, _, rfl, _⟩ := h; rfl
theorem pub2_len {G : Cv → Cv → Hp → VK → Prop} {vs : List V} {H : Hp} {Q : VK} {E : XK} (h : pub2 K G vs H Q E) : vs.length = 2 := by obtain ⟨_, _, _, _, rfl, _⟩ := h; rfl
end
end Bc
set_option Elab.async false
set_option linter.all false
set_option maxRecDepth 100000
set_option maxHeartbeats 4000000
namespace Bc
open PySem PySem.Spec PyProof.Rows L2 HotX L2H
/-! ### lists walked while an exception is handled -/
section
variable {prog : Program} {w : World} {A : Around} {E : Value → Shared → Prop} {s : Shared}
theorem list_end_hot {it l x1 : Addr} {i : Nat} {items : Array Value} {Q : Option Value → Shared → Prop} (hot : HotAt A x1 s.heap) (hxi : x1 ≠ it) (hi : s.heap.IsListIter it l i) (hl : s.heap.IsList l items) (hx : items[i]? = none)
    (hQ : ∀ h', Heap.ExtBut it s.heap h' → Q none { s with heap := h' }) : wpAny (model prog w) A (pyNext (.ref it)) Q E s := by
  obtain ⟨oi, gi, ci, di⟩ := id hi
  obtain ⟨ol, gl, _, nl, dl⟩ := hl
  obtain ⟨hh, o1, vs1, h1, d1, c1⟩ := hot
  unfold pyNext
  refine wpAny_bind (wpAny_attempt (wpAny_callSpecial?_slot (name := Str.ofString "__next__") hi.typeIs slot_listiter_next (wpAny_call_entry slot_listiter_next hi.typeIs entry_listiter_next ?_ (args_listiter_next _))))
  show wpAny _ _ (field (.ref it) 0 >>= _) _ _ s
  refine wpAny_bind (wpAny_field gi di (x := .ref l) rfl ?_)
  show wpAny _ _ (if (Value.ref l == Value.none) = true then _ else _) _ _ s
  rw [if_neg (show ¬ ((Value.ref l == Value.none) = true) from Bool.false_ne_true)]
  show wpAny _ _ (field (.ref it) 1 >>= _) _ _ s
  refine wpAny_bind (wpAny_field gi di (x := .int i 0) rfl ?_)
  show wpAny _ _ (seqItems? (.ref l) >>= _) _ _ s
  refine wpAny_bind (wpAny_seqItems gl dl ?_)
  simp only [Int.toNat_natCast, hx]
  refine wpAny_bind (wpAny_rule (wpAny_bind (wpAny_setField gi di (by simp) ?_)))
  show wpAny _ _ (newExc (.type "StopIteration") [] >>= _) _ _ _
  refine wpAny_bind ?_
  simp only [newExc, newTuple]
  refine wpAny_bind (wpAny_newObj_type ?_ (by size_fits))
  refine wpAny_bind (m := firstArgMember _ _) (wpAny_of_eq (a := Value.none) (by first | rfl | (simp only [firstArgMember]; rfl)) ?_)
  refine wpAny_newObj_type ?_ (by size_fits)
  have h1' := (Heap.get?_update_other s.heap (Obj.mapFields (·.setIfInBounds 0 Value.none)) (Ne.symm hxi)).trans h1
  refine raiseNew_hot ⟨hh, o1, vs1, Heap.get?_push_of_some _ (Heap.get?_push_of_some _ h1'), d1, c1⟩ (Nat.ne_of_lt (Heap.lt_size (Heap.get?_push_of_some _ h1'))) (Heap.get?_push_size _ rfl) rfl (by first | (simp; done) | (simp; omega) | (simp only [Array.size_append]; simp; omega)) ?_
  refine wpAny_bind (wpAny_isInstance (T := "StopIteration") (b := true) ⟨_, Heap.get?_update_self _ (Heap.get?_push_size _ rfl) rfl, rfl⟩ isSubtype_stop ?_)
  refine wpAny_pure (hQ _ fun b o hb e => ?_)
  have e' := (Heap.get?_update_other s.heap (Obj.mapFields (·.setIfInBounds 0 Value.none)) (Ne.symm hb)).trans e
  rw [Heap.get?_update_other _ _ (Nat.ne_of_gt (Heap.lt_size (Heap.get?_push_of_some _ e')))]
  exact Heap.get?_push_of_some _ (Heap.get?_push_of_some _ e')
/-- the walk of a list -/
theorem walks_hot {I ax x1 : Addr} {o1 : Obj} {vs1 : Array Value} (hh : A.handled = some (.ref x1)) (d1 : o1.data = .fields vs1) (c1 : vs1[2]? = some .none) (hne : ax ≠ I) (hx : x1 ≠ I) (items : Array Value) :
    Walks prog w A I [I, ax, x1] [I] items.size (fun i v => items[i]? = some v) (fun i h => h.IsListIter I ax i ∧ h.IsList ax items ∧ h.get? x1 = some o1) where
  sub := fun b hb => by simp at hb; simp [hb]
  frame := fun _ _ _ st hk => ⟨st.1.at fun o e => hk I (by simp) o e, st.2.1.at fun o e => hk ax (by simp) o e, hk x1 (by simp) _ st.2.2⟩
  item := fun i s Q E hi st hQ => by
    refine wpAny_pyNext_list_item st.1 st.2.1 (x := items[i]) (by simp [hi]) fun h' it' sb => ?_
    exact hQ _ h' s.toks (by simp [hi]) ⟨it', st.2.1.extBut sb.extBut hne, sb.extBut _ _ hx st.2.2⟩ fun b o hb e => sb.extBut b o (fun h => hb (by simp [h])) e
  done := fun s Q E st hQ => list_end_hot ⟨hh, o1, vs1, st.2.2, d1, c1⟩ hx st.1 st.2.1 (by simp) fun h' eb => hQ h' s.toks fun b o hb e => eb b o (fun h => hb (by simp [h])) e
  self := fun _ _ _ _ st hQ => wpAny_pyIter_listiter st.1 hQ
end
theorem obj_get {P : Program} {w : World} {H : Hp} {h : Heap} {a : Addr} {o : HO} (x : ObjOk P w H h a o) : ∃ u, h.get? a = some u := by
  cases o with
  | lst xs => obtain ⟨_, _, _, _, e⟩ := x; exact ⟨_, e⟩
  | tup xs => obtain ⟨_, _, _, o, p, _⟩ := x; exact ⟨_, p⟩
  | dK kvs => obtain ⟨_, _, _, _, o, _, _, e, _⟩ := x; exact ⟨_, e⟩
  | dT kvs => obtain ⟨_, _, _, _, o, _, _, e, _⟩ := x; exact ⟨_, e⟩
  | set S n => obtain ⟨o, _, _, _, e, _⟩ := x; exact ⟨_, e⟩
  | ins C dx fs => obtain ⟨_, _, _, e, _⟩ := x; exact ⟨_, e⟩
  | own y => obtain ⟨_, e⟩ := x; exact ⟨_, e⟩
  | xd fs => obtain ⟨_, ⟨_, _, _, e, _⟩, _⟩ := x; exact ⟨_, e⟩
  | rng lo hi => obtain ⟨_, _, _, e⟩ := x; exact ⟨_, e⟩
  | frz ob u => obtain ⟨e, _⟩ := x; exact ⟨_, e⟩
  | tbl ps => exact ⟨_, show h.get? a = some _ from x⟩
  | met f y => exact ⟨_, show h.get? a = some _ from x⟩
  | ext φ => obtain ⟨_, ⟨_, e⟩, _⟩ := x; exact ⟨_, e⟩
theorem flags_paired : ∀ {bs : List Bool} {ys : List Value}, Paired (fun v z => ∃ b t, v = Value.bool b ∧ z = Value.int (if b then 1 else 0) t) (bs.map Value.bool) ys → Vals ((bs.map fun b => if b then (1 : Int) else 0).map V.int) ys
  | [], _, h => by cases h; exact .nil
  | b :: bs, _, h => by
    cases h with
    | cons r t =>
      obtain ⟨b', t', e1, rfl⟩ := r
      cases e1
      exact .cons ⟨_, rfl⟩ (flags_paired t)
section
variable {X : Cx}
/-- sum of a list of noughts and ones -/
def rSumH (K : PySem.W.Frag) : List V → Hp → VK → Prop := fun vs H Q => ∃ (a : Addr) (ns : List Int), vs = [V.ref a] ∧ SqL K H a (ns.map V.int) ∧ ns.length ≤ 100 ∧ (∀ n ∈ ns, 0 ≤ n ∧ n ≤ 1) ∧ Q (.int ns.sum) H
theorem pre_le {ns : List Int} (h : ∀ n ∈ ns, 0 ≤ n ∧ n ≤ 1) : ∀ j, 0 ≤ (ns.take j).sum ∧ (ns.take j).sum ≤ ns.length := by
  induction ns with
  | nil => intro j; simp
  | cons x r ih =>
    intro j
    have hx := h x (List.mem_cons_self ..)
    cases j with
    | zero => rw [List.take_zero, List.sum_nil, List.length_cons]; omega
    | succ j =>
      have := ih (fun n hn => h n (List.mem_cons_of_mem _ hn)) j
      rw [List.take_succ_cons, List.sum_cons, List.length_cons]
      omega
theorem cr_sumH (hc : HotC X) : CallR X (.builtin "sum") (rSumH X.K) := by
  intro pins s σ H vs us Q I r h
  obtain ⟨a, ns, rfl, hs, hlen, h01, q⟩ := h
  obtain ⟨its, rv, hl, _⟩ := I.list hs
  rw [Vals.ref1 r]
  obtain ⟨xs, e⟩ := rv.ints.allInts.items
  have hn : numsOf (intItems xs).toList = ns := by rw [← e]; exact rv.ints.numsOf
  rw [nums_intItems] at hn
  rw [e] at hl
  obtain ⟨p, ⟨hh, v1, d1, c1⟩, hp⟩ := hc
  have P1 := (I.pin p (List.mem_append_left _ hp)).1
  have hlt : a < s.heap.objs.size := by obtain ⟨_, z, _⟩ := hl.isList; exact Heap.lt_size z
  have hpt : p.1 < s.heap.objs.size := Heap.lt_size P1
  refine call_sum_walk (wpAny_pyIter_list hl.isList ?_)
  refine ⟨_, _, _, _, _, _, numAt xs, rfl, walks_hot (A := X.A.in1) hh d1 c1 (Nat.ne_of_lt hlt) (Nat.ne_of_lt hpt) (intItems xs), ⟨⟨_, Heap.get?_push_size _ rfl, rfl, rfl⟩, hl.isList.push _, Heap.get?_push_of_some _ P1⟩, fun b hb => ?_, (fun _ _ => intItems_at), fun j hj => ?_, fun h' tk t' hk => ?_⟩
  · show b < (s.heap.push _).objs.size
    rw [Heap.size_push]
    rcases List.mem_cons.mp hb with rfl | hb
    · exact Nat.lt_succ_self _
    · rcases List.mem_cons.mp hb with rfl | hb
      · exact Nat.lt_succ_of_lt hlt
      · rcases List.mem_cons.mp hb with rfl | hb
        · exact Nat.lt_succ_of_lt hpt
        · cases hb
  · have b1 := pre_le h01 j
    have b2 := pre_le h01 (j + 1)
    have e1 : preSum (numAt xs) j = (ns.take j).sum := by rw [preSum_eq, hn]
    have e2 : preSum (numAt xs) (j + 1) = (ns.take (j + 1)).sum := by rw [preSum_eq, hn]
    have e3 : preSum (numAt xs) (j + 1) = preSum (numAt xs) j + numAt xs j := rfl
    unfold InLong
    omega
  · have e1 : preSum (numAt xs) (intItems xs).size = ns.sum := by rw [preSum_eq, List.take_of_length_le (by simp [intItems]), hn]
    rw [e1]
    refine ⟨.int ns.sum, H, I.kept fun b o eo => hk b o (fun hm => ?_) (Heap.get?_push_of_some _ eo), ⟨_, rfl⟩, q⟩
    rcases List.mem_cons.mp hm with z | z
    · exact absurd (z ▸ Heap.lt_size eo) (Nat.lt_irrefl _)
    · cases z
/-- [int(y) for y in flags], flags a list of flags -/
def tLcB (K : PySem.W.Frag) (te : TE) : TE := fun σ H Q => te σ H fun x H1 => ∃ (a : Addr) (bs : List Bool), x = .ref a ∧ H1 a = some (.lst (bs.map V.bl)) ∧ ∀ D, H1 D = none → Q (.ref D) (upd H1 D (.lst ((bs.map fun b => if b then (1 : Int) else 0).map V.int)))
theorem pe_lcB {iter : Expr} {te : TE} {y : Str} {scope : Scope} {p1 p2 p3 p4 pos : Pos} (hc : HotC X) (hi : PE X iter te) (hm : X.mg "int" = none)
    (hfree : ∀ z ∈ scope.names, z.2 ≠ .free) (hcell : ∀ z ∈ scope.names, z.2 ≠ .cell) (hkind : scope.kind = .function) (hnames : ∀ z ∈ scope.names, z.2 = .local → scope.names.lookup z.1 = some .local) (hx : scope.names.lookup y = some .local)
    (hint : scope.names.lookup ("int" : Str) = some .globalImplicit) (hy : (y == ("__debug__" : Str)) = false) (hs : ∀ x, foldedSetIterable iter X.env x = pure x := by intro _; rfl) :
    PE X (.ListComp (.Call (.Name "int" p1) [.Name y p2] [] p3) [⟨.Name y p4, iter, [], 0⟩] scope pos) (tLcB X.K te) := by
  refine ⟨fun pins s σ H Q I h => ?_⟩
  refine wpAny_ListComp_walk (fun _ => true) (fun v z => ∃ b t, v = Value.bool b ∧ z = Value.int (if b then 1 else 0) t) hfree hcell hkind hnames hx (thn (hi.run pins s σ H _ I h) fun u s1 hu => ?_) hs
  obtain ⟨x, H1, I1, rx, a, bs, rfl, ha, q⟩ := hu
  obtain rfl : u = Value.ref a := rx
  obtain ⟨its, rv, hl, _⟩ := I1.list (SqL.of (K := X.K) ha)
  have hb := rv.bls
  obtain ⟨p, ⟨hh, v1, d1, c1⟩, hp⟩ := hc
  have P1 := (I1.pin p (List.mem_append_left _ hp)).1
  have hlt : a < s1.heap.objs.size := by obtain ⟨_, z, _⟩ := hl.isList; exact Heap.lt_size z
  have hpt : p.1 < s1.heap.objs.size := Heap.lt_size P1
  have old : ∀ b o, s1.heap.get? b = some o → b ∉ [s1.heap.objs.size] := fun b o e hmm => by
    rcases List.mem_cons.mp hmm with z | z
    · exact absurd (z ▸ Heap.lt_size e) (Nat.lt_irrefl _)
    · cases z
  refine wpAny_pyIter_list hl.isList ?_
  refine ⟨_, _, _, _, _, _, rfl, walks_hot (A := X.A) hh d1 c1 (Nat.ne_of_lt hlt) (Nat.ne_of_lt hpt) its.toArray, ?_, ⟨⟨_, Heap.get?_push_size _ rfl, rfl, rfl⟩, hl.isList.push _, Heap.get?_push_of_some _ P1⟩, fun b hb => ?_, ⟨?_, ?_⟩, ?_⟩
  · have := rv.length
    rw [List.size_toArray]
    omega
  · show b < (s1.heap.push _).objs.size
    rw [Heap.size_push]
    rcases List.mem_cons.mp hb with rfl | hb
    · exact Nat.lt_succ_self _
    · rcases List.mem_cons.mp hb with rfl | hb
      · exact Nat.lt_succ_of_lt hlt
      · rcases List.mem_cons.mp hb with rfl | hb
        · exact Nat.lt_succ_of_lt hpt
        · cases hb
  · intro C i v s3 m3 E' hP hn hm' hk htk
    exact wpAny_tests_nil ⟨rfl, s3.heap, s3.toks, rfl, fun _ _ e => e⟩
  · intro C i v s3 m3 E' hP _ hn hm' hk htk
    have hv : its[i]? = some v := by simpa using hP
    rw [hb, List.getElem?_map] at hv
    obtain ⟨b, hbb, rfl⟩ := Option.map_eq_some_iff.mp hv
    have ke : ∀ b o, s1.heap.get? b = some o → s3.heap.get? b = some o := fun b o e => hk b o (old b o e) (Heap.get?_push_of_some _ e)
    have kb : ∀ b o, X.base.get? b = some o → s3.heap.get? b = some o := fun b o e => ke b o (I1.bk b o e)
    obtain ⟨mb, g1, g2⟩ := I1.mod.blt
    refine wpAny_Call_Name_kw (Calls.Name_function_global hkind hint (Calls.loadGlobal_builtin (mg := X.mg) (mb := mb) (v := .type "int") ?_ hm ?_ ((g2 "int" (by decide)).trans (by decide +kernel)) ?_))
    · show s3.heap.Ns X.env.globals X.mg
      rw [I1.ok.glob]
      exact I1.mod.glob.keeps kb
    · show s3.heap.Ns X.env.builtins mb
      rw [I1.ok.blt]
      exact g1.keeps kb
    · refine PyProof.Rows.callWith_type1 ?_
      refine Calls.spliced_cons (wpAny_Name (wpAny_loadName_local hkind hx hn hm' ?_) hy)
      refine Calls.spliced_nil (call_int_bool ⟨⟨b, _, rfl, rfl⟩, s3.heap, s3.toks + 1, rfl, fun _ _ e => e⟩)
  · intro D h' tk ys vs hD hlD hpl hlen hP hF hk
    have ke : ∀ b o, s1.heap.get? b = some o → h'.get? b = some o := fun b o e => hk b o (old b o e) (Heap.get?_push_of_some _ e)
    have hD1 : s1.heap.get? D = none := by
      cases e : s1.heap.get? D with
      | none => rfl
      | some o =>
        have z := Heap.get?_push_of_some { cls := .type "list_iterator", data := .fields #[.ref a, .int 0 0] } e
        rw [show (s1.heap.push { cls := .type "list_iterator", data := .fields #[.ref a, .int 0 0] }).get? D = none from hD] at z
        cases z
    have hHD : H1 D = none := by
      cases e : H1 D with
      | none => rfl
      | some o =>
        obtain ⟨u, z⟩ := obj_get (I1.hok D o e)
        rw [hD1] at z
        cases z
    have ev : vs = its := by
      have := list_of_places (items := its.toArray) hlen hP
      simpa using this
    rw [List.filter_eq_self.mpr (fun _ _ => rfl), ev, hb] at hF
    obtain ⟨n, e⟩ := hpl
    refine ⟨.ref D, _, I1.laidN (o := .lst ((bs.map fun b => if b then (1 : Int) else 0).map V.int)) (t' := tk) ke hD1 hHD ⟨?_, ys.toList, n, flags_paired hF, by rw [Array.toArray_toList]; exact e⟩, rfl, q D hHD⟩
    rw [List.length_map, List.length_map]
    have : bs.length ≤ sizeLine := by
      have z := ‹(List.map V.bl bs).length ≤ sizeLine›
      rw [List.length_map] at z
      exact z
    exact this
end
end Bc
set_option Elab.async false
set_option linter.all false
set_option maxRecDepth 100000
set_option maxHeartbeats 4000000
set_option pp.maxSteps 600
namespace Bc
open PySem PySem.Spec PyProof.Rows L2 HotX L2H
/-! ### isinstance of the exception that is handled -/
theorem call_isP {X : Cx} {q : Addr × Obj} {D : Addr} (CD : ExcC X.K D) (hq : q ∈ X.pn) (z1 : q.2.cls = .ref D) (z2 : q.2.dict = none) (z3 : ∃ vs, q.2.data = .fields vs) : CallR X (.builtin "isinstance") (rIsE X.K D q.1) := by
  intro pins s σ H xs us Q I r h
  obtain ⟨c, cv, b, rfl, hcv, e, k⟩ := h
  obtain ⟨u1, u2, rfl, r1, r2⟩ := vals2 r
  cases r1
  have ec := hcv _ r2
  subst ec
  obtain ⟨hget, _⟩ := I.pin q (List.mem_append.mpr (.inl hq))
  obtain ⟨vs, hv⟩ := z3
  have J : PySem.W.InstAt s.heap q.1 q.2 D none := by
    obtain ⟨q1, oc, od, oda, osl⟩ := q
    dsimp only at z1 z2 hv hget
    subst z1 z2 hv
    exact ⟨hget, rfl, rfl, trivial⟩
  exact PySem.W.kia_one (PySem.W.handS_kitx_exc CD.hg CD.hk CD.hs CD.hd CD.ha CD.hn CD.ht CD.hm) I.kIn J e (fun z => nomatch z) fun tk => ⟨.bl b, H, I.kept (t' := tk) fun _ _ z => z, rfl, k⟩
/-! ### a def of the module called where an exception is handled -/
theorem run_hot {P : Program} {w : World} {K : PySem.W.Frag} {mg : Str → Option Value} {base : Heap} {k : Nat} {x : Str} {N ps : List Str} {st : Stmt} {fd : FuncData} {A : Around} {outer : List Env} {s : Shared} {H : Hp} {args : Args} {us : List Value} {vs : List V} {Q : VK} {q : Addr × Obj}
    (F : FunD K x x (defArgs st) (defBody st) (defScope st) [] [] (He.ga K x) fd) (S : FnScope N ps (defScope st)) (hr : RoomH (k + 1) A) (hq : PinOk outer H s q) (e0 : Env0 P w K mg base A outer s H) (hb : BindsTo s fd args (ps.zip us)) (r : Vals vs us) (hl : vs.length = ps.length)
    (hbody : ∀ cdv : Value, RoomH k (A.deeper (envOfC x (defScope st) s.heap.objs.size (He.ga K x) cdv)) →
      ∃ t, PSs (cxH CX0 P w K mg base N x (defScope st) (He.ga K x) cdv A outer s H E0 q) (defBody st) t ∧ t { nx := fun _ H' => Q .non H', rt := Q } (L2.start N vs) H) :
    codeAny (model P w) A (.call (.ref (He.ga K x)) args) (CR CX0 outer P w H s Q E0) s := by
  obtain ⟨oc, od, dV, kV, doc, pm, an, cdv, ct, osl, rfl, lk, hcd, _, _⟩ := F.ex
  have kx : K.In s.heap := e0.mod.kin.keeps fun b o e => (e0.bs b o e).1
  have nl : s.heap.NoLimit := e0.mod.nolimit.keeps fun b o e => (e0.bs b o e).1
  have kinds : ∀ y ∈ ps.zip us, (defScope st).names.lookup y.1 = some .local ∨ ((defScope st).names.lookup y.1 = some .cell ∧ ((cellsFrom (s.heap.objs.size + 1) (defScope st).names []).lookup y.1).isSome = true) := fun ⟨n, v⟩ hy =>
    (S.par n (List.of_mem_zip hy).1).elim .inl fun z => .inr ⟨z, PySem.W.cellsFrom_some _ _ _ (.inl z)⟩
  refine codeAny_call_function hr.depth (kx _ _ lk) rfl S.co S.gen rfl (PySem.W.codeRec_of kx hcd) (hb _ _ _ _ (wpAny_newFunctionEnv_cells S.kind kinds fun env he s1 ic => ?_))
  subst he
  refine ⟨nl.keeps ic.toInCall.keep, codeAny_func ?_⟩
  obtain ⟨t, ht, hw⟩ := hbody cdv (hr.deeper _)
  have J : Inv (cxH CX0 P w K mg base N x (defScope st) (He.ga K x) cdv A outer s H E0 q) [] (L2.start N vs) H s1 := inv_startH S hq e0 hl r ic
  refine wpAny_mono (ht.run [] s1 _ H _ J hw) (fun fl s' hs => ?_) fun e s' hs => hs
  cases fl with
  | ret u =>
    obtain ⟨v, σ', H', J', rv, hv⟩ := hs
    exact ⟨v, H', J'.os, J'.bare, J'.base, J'.hok, rv, hv⟩
  | next =>
    obtain ⟨σ', H', J', hv⟩ := hs
    exact ⟨V.non, H', J'.os, J'.bare, J'.base, J'.hok, rfl, hv⟩
  | brk =>
    obtain ⟨_, _, _, z⟩ := hs
    exact z.elim
  | cont =>
    obtain ⟨_, _, _, z⟩ := hs
    exact z.elim
/-! ### _law_term -/
def dErr (x : Str) : PyData := .tuple [.str "error", .str x]
def fl6 (x : Str) : List Bool := [decide (x = "InvalidCurve"), decide (x = "InvalidNumber"), decide (x = "InvalidPath"), decide (x = "InvalidText"), decide (x = "TooMany"), decide (x = "NothingToUndo")]
theorem fl6_ok : ∀ x ∈ kinds6, ((fl6 x).map fun b => if b then (1 : Int) else 0).sum = 1 ∧ (∀ n ∈ ((fl6 x).map fun b => if b then (1 : Int) else 0), 0 ≤ n ∧ n ≤ 1) ∧ ∃ j : Fin 6, (fl6 x)[j.val]? = some true ∧ (∀ m : Fin 6, m < j → (fl6 x)[m.val]? = some false) ∧ kinds6[j.val]? = some x := by decide +kernel
theorem sc__law_term : FnScope ["e", "flags", "kinds", "flag"] ["e"] (defScope s__law_term) := ⟨rfl, rfl, rfl, by decide +kernel, rfl, by decide +kernel, by decide +kernel⟩
section
variable {P : Program} {w : World} {K : PySem.W.Frag} {mg : Str → Option Value} {base : Heap}
theorem walk_term {N : Nat} (B : Blt mg) (b_ve : mg "ValueError" = none) (T : Kits K) (g_InvalidCurve : mg "InvalidCurve" = some (.ref (He.ga K "InvalidCurve"))) (g_InvalidNumber : mg "InvalidNumber" = some (.ref (He.ga K "InvalidNumber"))) (g_InvalidPath : mg "InvalidPath" = some (.ref (He.ga K "InvalidPath"))) (g_InvalidText : mg "InvalidText" = some (.ref (He.ga K "InvalidText"))) (g_TooMany : mg "TooMany" = some (.ref (He.ga K "TooMany"))) (g_NothingToUndo : mg "NothingToUndo" = some (.ref (He.ga K "NothingToUndo")))
    {cdv : Value} {A : Around} {outer : List Env} {s : Shared} {H : Hp} {Q : VK} {q : Addr × Obj} {x : Str} (hx : x ∈ kinds6) (hot : Hot1 A q) (z1 : q.2.cls = .ref (He.ga K x)) (z2 : q.2.dict = none) (ret : ∀ v H', Same H H' → Dp K H' v (dErr x) → Q v H') :
    ∃ t, PSs (cxH CX0 P w K mg base ["e", "flags", "kinds", "flag"] "_law_term" (defScope s__law_term) (He.ga K "_law_term") cdv A outer s H E0 q) (defBody s__law_term) t ∧ t { nx := fun _ H' => Q .non H', rt := Q } (L2.start ["e", "flags", "kinds", "flag"] [.ref q.1]) H := by
  have hotc : HotC (cxH CX0 P w K mg base ["e", "flags", "kinds", "flag"] "_law_term" (defScope s__law_term) (He.ga K "_law_term") cdv A outer s H E0 q) := ⟨q, hot, List.mem_singleton.mpr rfl⟩
  have hpn : q ∈ (cxH CX0 P w K mg base ["e", "flags", "kinds", "flag"] "_law_term" (defScope s__law_term) (He.ga K "_law_term") cdv A outer s H E0 q).pn := List.mem_singleton.mpr rfl
  have z3 : ∃ vs, q.2.data = .fields vs := let ⟨_, vs, e, _⟩ := hot; ⟨vs, e⟩
  have ci : CallR (cxH CX0 P w K mg base ["e", "flags", "kinds", "flag"] "_law_term" (defScope s__law_term) (He.ga K "_law_term") cdv A outer s H E0 q) (.builtin "isinstance") (rIsE K (He.ga K x) q.1) := call_isP (T.ex x hx) hpn z1 z2 z3
  refine ⟨_, (pss_cons (ps_set (i := 1) sc__law_term.nd rfl (Or.inl rfl) (pe_lst (pa_cons (pe_callB ci (by rfl) B.isinstance (by decide +kernel) (pa_cons (pv 0) (pa_cons (pe_glob (v := (.ref (He.ga K "InvalidCurve"))) (by rfl) g_InvalidCurve rfl) pa_nil))) (pa_cons (pe_callB ci (by rfl) B.isinstance (by decide +kernel) (pa_cons (pv 0) (pa_cons (pe_glob (v := (.ref (He.ga K "InvalidNumber"))) (by rfl) g_InvalidNumber rfl) pa_nil))) (pa_cons (pe_callB ci (by rfl) B.isinstance (by decide +kernel) (pa_cons (pv 0) (pa_cons (pe_glob (v := (.ref (He.ga K "InvalidPath"))) (by rfl) g_InvalidPath rfl) pa_nil))) pa_nil)))))
      (pss_cons (ps_set (i := 1) sc__law_term.nd rfl (Or.inl rfl) (pe_op op_cat (pv 1) (pe_lst (pa_cons (pe_callB ci (by rfl) B.isinstance (by decide +kernel) (pa_cons (pv 0) (pa_cons (pe_glob (v := (.ref (He.ga K "InvalidText"))) (by rfl) g_InvalidText rfl) pa_nil))) (pa_cons (pe_callB ci (by rfl) B.isinstance (by decide +kernel) (pa_cons (pv 0) (pa_cons (pe_glob (v := (.ref (He.ga K "TooMany"))) (by rfl) g_TooMany rfl) pa_nil))) (pa_cons (pe_callB ci (by rfl) B.isinstance (by decide +kernel) (pa_cons (pv 0) (pa_cons (pe_glob (v := (.ref (He.ga K "NothingToUndo"))) (by rfl) g_NothingToUndo rfl) pa_nil))) pa_nil))))))
      (pss_cons (ps_set (i := 2) sc__law_term.nd rfl (Or.inl rfl) (pe_lst (pa_cons pe_str (pa_cons pe_str (pa_cons pe_str (pa_cons pe_str (pa_cons pe_str (pa_cons pe_str pa_nil))))))))
      (pss_cons (ps_if (PW.pt (pw_or (pt_cmpR op_ne (pe_callB (cr_sumH hotc) (by rfl) B.sum (by decide +kernel) (pa_cons (pe_lcB hotc (pv 1) B.int (by decide +kernel) (by decide +kernel) rfl (by decide +kernel) rfl rfl (by decide +kernel)) pa_nil)) pe_int (nomark _)) (pw_or1 (pt_not (pt_val (pe_callB ci (by rfl) B.isinstance (by decide +kernel) (pa_cons (pv 0) (pa_cons (pe_bltn (v := .ty "ValueError") (by rfl) b_ve (by decide +kernel) rfl) pa_nil))))))))
        (pss_one (ps_ret (pe_tup (pa_cons pe_str (pa_cons pe_str pa_nil)))))
        pss_nil)
      (pss_one (ps_ret (pe_tup (pa_cons pe_str (pa_cons (pe_ix ix_list (pv 2) (pe_bm PySem.F.plainAttrs_list PySem.F.slot_list_index PySem.F.type_list_index mt_index (pv 1) (pa_cons pe_bl pa_nil)) (fun _ _ => rfl)) pa_nil))))))))), ?_⟩
  have k1 := T.kit x hx "InvalidCurve" (by decide)
  have k2 := T.kit x hx "InvalidNumber" (by decide)
  have k3 := T.kit x hx "InvalidPath" (by decide)
  have k4 := T.kit x hx "InvalidText" (by decide)
  have k5 := T.kit x hx "TooMany" (by decide)
  have k6 := T.kit x hx "NothingToUndo" (by decide)
  have kv := T.ve x hx
  refine ⟨_, rfl, _, _, _, rfl, fun _ h => h, k1, _, rfl, _, _, _, rfl, fun _ h => h, k2, _, rfl, _, _, _, rfl, fun _ h => h, k3, (by show 3 ≤ sizeLine; decide), fun L1 hL1 => ?_⟩
  refine ⟨_, rfl, _, rfl, _, _, _, rfl, fun _ h => h, k4, _, rfl, _, _, _, rfl, fun _ h => h, k5, _, rfl, _, _, _, rfl, fun _ h => h, k6, (by show 3 ≤ sizeLine; decide), fun L2 hL2 => ?_⟩
  have e1 := Same.new (o := .lst [.bl (decide (x = "InvalidCurve")), .bl (decide (x = "InvalidNumber")), .bl (decide (x = "InvalidPath"))]) hL1
  have e2 := Same.new (o := .lst [.bl (decide (x = "InvalidText")), .bl (decide (x = "TooMany")), .bl (decide (x = "NothingToUndo"))]) hL2
  refine ⟨L1, L2, _, _, rfl, rfl, e2 _ _ upd_same, upd_same, (by show 6 ≤ sizeLine; decide), fun L3 hL3 => ?_⟩
  have e3 := (e1.trans e2).trans (Same.new (o := .lst ((fl6 x).map V.bl)) hL3)
  have h3 := upd_same (H := (upd (upd H L1 (.lst [.bl (decide (x = "InvalidCurve")), .bl (decide (x = "InvalidNumber")), .bl (decide (x = "InvalidPath"))])) L2 (.lst [.bl (decide (x = "InvalidText")), .bl (decide (x = "TooMany")), .bl (decide (x = "NothingToUndo"))]))) (a := L3) (o := .lst ((fl6 x).map V.bl))
  refine (?_ : gName 1 (V.ref L3) _ (upd (upd (upd H L1 _) L2 _) L3 (.lst ((fl6 x).map V.bl))) _)
  generalize upd (upd (upd H L1 _) L2 _) L3 (.lst ((fl6 x).map V.bl)) = H3 at *
  refine ⟨(by show 6 ≤ sizeLine; decide), fun L4 hL4 => ?_⟩
  have e4 := Same.new (o := .lst (kinds6.map V.str)) hL4
  have h4 := upd_same (H := H3) (a := L4) (o := .lst (kinds6.map V.str))
  refine (?_ : gName 2 (V.ref L4) _ (upd H3 L4 (.lst (kinds6.map V.str))) _)
  replace h3 := e4 _ _ h3
  replace e3 := e3.trans e4
  generalize upd H3 L4 (.lst (kinds6.map V.str)) = H4 at *
  refine ⟨_, rfl, L3, _, rfl, h3, fun D hD => ?_⟩
  obtain ⟨hs1, hs2, j, hj1, hj2, hj3⟩ := fl6_ok x hx
  refine ⟨D, _, rfl, SqL.of upd_same, (by show 6 ≤ 100; decide), hs2, rfl, ?_⟩
  rw [hs1]
  refine ⟨false, rfl, iteF ?_⟩
  have e5 := Same.new (o := .lst (((fl6 x).map fun b => if b then (1 : Int) else 0).map V.int)) hD
  refine ⟨_, rfl, .ty "ValueError", .type "ValueError", true, rfl, fun _ h => h, kv, true, rfl, iteF ?_⟩
  have hfl : ((fl6 x).map V.bl).all flatV = true := rfl
  refine ⟨_, rfl, _, rfl, .inl ⟨rfl, _, SqL.of (e5 _ _ h3)⟩, L3, (fl6 x).map V.bl, .bl true, j.val, .bl true, rfl, rfl, SqL.of (e5 _ _ h3), rfl, hfl, by rw [List.getElem?_map, hj1]; rfl, rfl, fun m z hm hz => ?_, ?_⟩
  · rw [List.getElem?_map, hj2 ⟨m, by omega⟩ hm] at hz
    cases hz
    rfl
  · refine ⟨L4, _, (j.val : Int), .str x, rfl, rfl, SqL.of (e5 _ _ h4), atI_nat (by rw [List.getElem?_map, hj3]; rfl), sz2, fun t ht => ?_⟩
    exact ret _ _ ((e3.trans e5).trans (Same.new ht)) (.tup (SqT.of upd_same) (.cons (.str _) (.cons (.str _) .nil)))
end
end Bc
set_option Elab.async false
set_option linter.all false
set_option maxRecDepth 100000
set_option maxHeartbeats 4000000
set_option pp.maxSteps 600
namespace Bc
open PySem PySem.Spec PyProof.Rows L2 LamX
/-! ### a lambda whose exceptions' context is None -/
/-- the context of the lambda's body -/
def lamN (X : Cx) (A : Around) (outer : List Env) (s : Shared) (H : Hp) (E : XK) (scope : Scope) (f c' : Addr) : Cx :=
  (lamCx X A outer s H E scope f c').tr [] (fun e s' => wpAny (model X.prog X.w) (A.deeper (lamEnv X scope s.heap.objs.size f c')) (leaving (lamEnv X scope s.heap.objs.size f c') e) (fun _ s2 => L2N.CX X.prog X.w outer H s E e s2) (fun e2 s2 => L2N.CX X.prog X.w outer H s E e2 s2) s')
section
variable {X : Cx} {pins : List (Addr × Obj)} {σ : L2.St} {H : Hp} {s : Shared}
theorem pe_actN {CXg : CXT} {Eg : XK} {Ng : List Str} {qg : Str} {sg : Scope} {g f c' : Addr} {cdg pm ctv : Value} {params : Arguments} {body : Expr} {scope : Scope} {k i : Nat} {y : Str} {pn : List (Addr × Obj)} {xe : Value → Shared → Prop} {W : WX} {E : XK} {tb : TE} {p1 p2 : Pos}
    (I : Inv X pins σ H s) (L : LamS X.env.scope scope) (of0 : s.heap.get? f = some (PySem.W.kla_obj "<lambda>" (X.env.qual ++ "<lambda>") params body scope (cloFrom X.env.cells scope.names []) pm c' ctv)) (nf : H f = none) (nfr : f ∉ frs X.stack)
    (bnd : bindArgs (PySem.W.kla_fn "<lambda>" (X.env.qual ++ "<lambda>") params body scope (cloFrom X.env.cells scope.names []) pm (.ref c') ctv) ⟨[], []⟩ = pure [])
    (tk : L2N.Takes ((cxOf CXg X.prog X.w X.K X.mg X.base Ng qg sg g cdg X.A X.stack s H Eg).tr pn xe) W) (hW : ∀ cls d σ' H', E cls d H' → W cls d σ' H') (hr : Room (k + 1) (X.A.deeper (envOfC qg sg s.heap.objs.size g cdg)))
    (hbody : ∀ (A : Around) (outer : List Env) (s : Shared) (H : Hp), Room k (A.deeper (lamEnv X scope s.heap.objs.size f c')) → PE (lamN X A outer s H E scope f c') body tb)
    (hN : Ng[i]? = some y) (hv : Vis sg y) (hd : (y == ("__debug__" : Str)) = false := by decide) (hcd : (y == ("__classdict__" : Str)) = false := by decide) :
    PE ((cxOf CXg X.prog X.w X.K X.mg X.base Ng qg sg g cdg X.A X.stack s H Eg).tr pn xe) (.Call (.Name y p1) [] [] p2)
      (fun τ G Q => τ[i]? = some (some (.ref f)) ∧ G c' = some (CodeO c' (X.env.qual ++ "<lambda>")) ∧ tb σ G Q) := by
  refine ⟨fun pz sz τ G Q IZ ⟨hs, hc, ht⟩ => ?_⟩
  refine wpAny_Call_Name_kw (thn ((pe_var (pos := p1) (i := i) hN hv hd hcd).run pz sz τ G (fun v H1 => v = .ref f ∧ H1 = G) IZ ⟨.ref f, hs, rfl, rfl⟩) fun u s1 ⟨v, H1, I1, r1, ev, eH⟩ => ?_)
  subst ev
  subst eH
  obtain rfl : u = Value.ref f := r1
  have of1 := I1.base.keep f _ of0 nf nfr (fun z => nomatch (show f ∈ ([] : List Addr) from z))
  refine PySem.W.callWith_F0 ⟨_, _, _, _, of1⟩ ?_
  obtain ⟨⟨oc, vs, t, hoc, hdc, hvc⟩, _, _⟩ := I1.hok c' _ hc
  have rc : codeAny (model X.prog X.w) (X.A.deeper (envOfC qg sg s.heap.objs.size g cdg)) (.call (.ref f) ⟨[], []⟩) (CR (L2N.CX X.prog X.w) (envOfC qg sg s.heap.objs.size g cdg :: X.stack) X.prog X.w H1 s1 Q E) s1 := by
    refine PySem.W.kla_callFunE hr.depth of1 rfl L.co L.gen rfl ⟨c', oc, vs, t, rfl, hoc, hdc, hvc⟩ ?_
    rw [bnd]
    refine wpAny_pure (wpAny_newFunctionEnv (fun y hy => (L.own y hy).2) (fun y hy => absurd hy (by simp)) (fun h1 hns hsb => ⟨I1.nolimit.fresh _ hsb, ?_⟩) L.kind)
    show codeAny _ _ (.expr body (lamEnv X scope s1.heap.objs.size f c')) _ _
    have kp : ∀ b o, s1.heap.get? b = some o → h1.get? b = some o := fun b o e => hsb.extBut b o (Nat.ne_of_lt (Heap.lt_size e)) (Heap.get?_push_of_some _ e)
    have J0 : Inv (lamCx X (X.A.deeper (envOfC qg sg s.heap.objs.size g cdg)) (envOfC qg sg s.heap.objs.size g cdg :: X.stack) s1 H1 E scope f c') [] σ H1 { s1 with heap := h1, toks := s1.toks + ([] : List (Str × Value)).length } :=
      lam_start2 I L I1.env0 hr.hd I1.base hns kp
    have J : Inv (lamN X (X.A.deeper (envOfC qg sg s.heap.objs.size g cdg)) (envOfC qg sg s.heap.objs.size g cdg :: X.stack) s1 H1 E scope f c') [] σ H1 { s1 with heap := h1, toks := s1.toks + ([] : List (Str × Value)).length } := J0.toTry _
    refine PySem.W.kla_codeExpr (wpAny_mono ((hbody _ _ s1 H1 (hr.deeper _)).run [] _ _ H1 Q J ht) (fun v s' hq => ?_) fun e s' hq => hq)
    obtain ⟨v', H', J', rv, q⟩ := hq
    exact ⟨v', H', J'.os, J'.bare, J'.base, J'.hok, rv, q⟩
  refine wpAny_call (codeAny_mono rc fun r s' hq => ?_)
  cases r with
  | error e => exact L2N.passes_call tk hW pz τ H1 s1 e s' I1 hq
  | ok fl =>
    cases fl with
    | ret u => exact I1.after hq
    | next => exact False.elim hq
    | brk => exact False.elim hq
    | cont => exact False.elim hq
end
/-- the def that calls what it got, TT: what it makes of the lambda's reading -/
def GivesN (X : Cx) (Ng : List Str) (x : Str) (sg : Scope) (g : Addr) (cdg : Value) (bg : List Stmt) (y q : Str) (k : Nat) (TT : (XK → Hp → VK → Prop) → Hp → VK → Prop) : Prop :=
  ∀ (f c' : Addr) (s : Shared) (H : Hp) (Q : VK) (tl : XK → Hp → VK → Prop), Room k (X.A.deeper (envOfC x sg s.heap.objs.size g cdg)) →
    (∀ (W : WX) (pn : List (Addr × Obj)) (xe : Value → Shared → Prop) (E : XK) (p1 p2 : Pos), L2N.Takes ((cxOf CX0 X.prog X.w X.K X.mg X.base Ng x sg g cdg X.A X.stack s H E0).tr pn xe) W → (∀ cls d σ' H', E cls d H' → W cls d σ' H') →
      PE ((cxOf CX0 X.prog X.w X.K X.mg X.base Ng x sg g cdg X.A X.stack s H E0).tr pn xe) (.Call (.Name y p1) [] [] p2) (fun τ G Q => τ[0]? = some (some (.ref f)) ∧ G c' = some (CodeO c' q) ∧ tl E G Q)) →
    H c' = some (CodeO c' q) → TT tl H Q →
    ∃ t, PSs (cxOf CX0 X.prog X.w X.K X.mg X.base Ng x sg g cdg X.A X.stack s H E0).nox bg t ∧ t { nx := fun _ H' => Q .non H', rt := Q } (L2.start Ng [.ref f]) H
section
variable {X : Cx}
theorem pe_lamN {T : List (Addr × Str)} {TT : (XK → Hp → VK → Prop) → Hp → VK → Prop} {x y : Str} {c Pt : Addr} {k : Nat} {st : Stmt} {fd : FuncData} {Ng : List Str}
    {params : Arguments} {body : Expr} {scope : Scope} {t : XK → TE} {p lpos pos : Pos} (hg : Gl X x) (hm : X.mg x = some (.ref (He.ga X.K x))) (F : FunD X.K x x (defArgs st) (defBody st) (defScope st) [] [] (He.ga X.K x) fd) (hb : L2.Binds X.K fd [y] []) (Sg : FnScope Ng [y] (defScope st)) (hNg : Ng[0]? = some y) (hva : Vis (defScope st) y)
    (hG : ∀ cdv, GivesN X Ng x (defScope st) (He.ga X.K x) cdv (defBody st) y (X.env.qual ++ "<lambda>") (k + 1) TT)
    (TB : TabB X.base X.mg c Pt) (hcode : X.env.code = .ref c) (hmT : (Pt, X.env.qual ++ "<lambda>") ∈ T) (hu : ∀ z ∈ T, z.1 = Pt → z.2 = X.env.qual ++ "<lambda>") (hr : Room (k + 2) X.A) (L : LamS X.env.scope scope) (hdef : defaultsOf params X.env = ([], []))
    (bnd : ∀ (q : Str) (cl : List (Str × Addr)) (pm cv ctv : Value), bindArgs (PySem.W.kla_fn "<lambda>" q params body scope cl pm cv ctv) ⟨[], []⟩ = pure [])
    (hbody : ∀ (A : Around) (outer : List Env) (s : Shared) (H : Hp) (E : XK) (f c' : Addr), Room k (A.deeper (lamEnv X scope s.heap.objs.size f c')) → PE (lamN X A outer s H E scope f c') body (t E))
    (hdb : (x == ("__debug__" : Str)) = false := by decide) (hd : (y == ("__debug__" : Str)) = false := by decide) (hcd : (y == ("__classdict__" : Str)) = false := by decide) :
    PE X (.Call (.Name x p) [.Lambda params body scope lpos] [] pos) (tLam T TT t) := by
  obtain ⟨oc, od, dV, kV, doc, pm, an, cdv, ct, osl, rfl, lk, hcg, _, _⟩ := F.ex
  refine ⟨fun pins s σ H Q I ⟨hT, h⟩ => ?_⟩
  refine wpAny_Call_Name_kw (ld_glob I hg hm ?_ hdb)
  refine PySem.W.callWith_K (h₀ := X.base) I.ok.mod.kin F.kp ?_ (by rfl) (by rfl)
  show wpAny _ _ (spliced ((false, eval (.Lambda params body scope lpos) X.env) :: backTo pos (starEach [] X.env))) _ _ s
  refine Calls.spliced_cons (lam_make2 I TB hcode hmT hu hT hdef (L.has I.ok) fun f c' pm' ctv H1 s1 I1 eN T1 hf hfn hfr hco => Calls.spliced_nil ⟨I1.kIn, ?_⟩)
  have rc : codeAny (model X.prog X.w) X.A (.call (.ref (He.ga X.K x)) ⟨[.ref f], []⟩) (CR CX0 X.stack X.prog X.w H1 s1 Q E0) s1 := by
    refine run_ofS (N := Ng) (ps := [y]) (us := [.ref f]) (vs := [.ref f]) lk hcg Sg hr I1.env0 (hb s1 [.ref f] I1.kIn rfl) (.cons rfl .nil) rfl fun hr' => ?_
    obtain ⟨t', ht', hq'⟩ := hG cdv f c' s1 H1 Q (fun E H' Q' => t E σ H' Q') hr' (fun W pn xe E p1 p2 tk hW => pe_actN (i := 0) I1 L hf hfn hfr (bnd _ _ _ _ _) tk hW hr' (fun A outer s H hr2 => hbody A outer s H E f c' hr2) hNg hva hd hcd) hco (h H1 eN T1)
    exact ⟨t', ht'.nox, hq'⟩
  refine wpAny_call (codeAny_mono rc fun r s2 hq => ?_)
  cases r with
  | error e => exact (show False from hq).elim
  | ok fl =>
    cases fl with
    | ret u => exact I1.after hq
    | next => exact False.elim hq
    | brk => exact False.elim hq
    | cont => exact False.elim hq
theorem takesN0 {X : Cx} : L2N.Takes X (fun _ _ _ _ => False) := fun _ _ x => by
  obtain ⟨_, _, _, _, _, _, _, _, _, _, _, _, _, _, _, _, z⟩ := x
  exact z.elim
end
/-! ### _law_told -/
def TTold (K : PySem.W.Frag) : (XK → Hp → VK → Prop) → Hp → VK → Prop := fun tl H Q =>
  tl (fun cls d H' => ∃ x ∈ kinds6, cls = .ref (He.ga K x) ∧ d = none ∧ ∀ v H2, Same H' H2 → Dp K H2 v (dErr x) → Q v H2) H Q
theorem sc__law_told : FnScope ["deed", "e"] ["deed"] (defScope s__law_told) := ⟨rfl, rfl, rfl, by decide +kernel, rfl, by decide +kernel, by decide +kernel⟩
section
variable {X : Cx}
/-- _law_term(e), e the exception that is handled -/
theorem pe_term {Y : Cx} {a : Addr} {oe : Obj} {x y : Str} {i k : Nat} {fd : FuncData} {p1 p2 p3 : Pos} (B : Blt Y.mg) (b_ve : Y.mg "ValueError" = none) (T : Kits Y.K) (g_InvalidCurve : Y.mg "InvalidCurve" = some (.ref (He.ga Y.K "InvalidCurve"))) (g_InvalidNumber : Y.mg "InvalidNumber" = some (.ref (He.ga Y.K "InvalidNumber"))) (g_InvalidPath : Y.mg "InvalidPath" = some (.ref (He.ga Y.K "InvalidPath"))) (g_InvalidText : Y.mg "InvalidText" = some (.ref (He.ga Y.K "InvalidText"))) (g_TooMany : Y.mg "TooMany" = some (.ref (He.ga Y.K "TooMany"))) (g_NothingToUndo : Y.mg "NothingToUndo" = some (.ref (He.ga Y.K "NothingToUndo")))
    (Ft : FunD Y.K "_law_term" "_law_term" (defArgs s__law_term) (defBody s__law_term) (defScope s__law_term) [] [] (He.ga Y.K "_law_term") fd) (gt : Y.mg "_law_term" = some (.ref (He.ga Y.K "_law_term"))) (hr : L2H.RoomH (k + 1) Y.A) (hp : (a, oe) ∈ Y.pn) (hh : Y.A.handled = some (.ref a)) (hx : x ∈ kinds6) (hz : L2N.Zn (.ref (He.ga Y.K x)) none oe) (hf : ∃ vs, oe.data = .fields vs)
    (hg : Gl Y "_law_term") (hN : Y.N[i]? = some y) (hv : Vis Y.env.scope y) (hd : (y == ("__debug__" : Str)) = false := by decide) (hcd : (y == ("__classdict__" : Str)) = false := by decide) :
    PE Y (.Call (.Name "_law_term" p1) [.Name y p2] [] p3) (fun σ H Q => σ[i]? = some (some (.ref a)) ∧ ∀ v H2, Same H H2 → Dp Y.K H2 v (dErr x) → Q v H2) := by
  have bt : Binds Y.K fd ["e"] [] := FunD.bindsN Ft fun _ _ _ _ _ _ us hl => match us, hl with | [_], _ => rfl
  refine ⟨fun pins s σ H Q I ⟨hs, h⟩ => ?_⟩
  refine wpAny_Call_Name_kw (ld_glob I hg gt ?_ (by decide))
  have ha : PA Y [.Name y p2] (tCons (tVar i) tNil) := pa_cons (pe_var hN hv hd hcd) pa_nil
  refine PySem.W.callWith_K (h₀ := Y.base) I.ok.mod.kin Ft.kp (thn (ha.run p3 pins s σ H (fun vs H1 => vs = [.ref a] ∧ H1 = H) I ⟨_, hs, rfl, rfl⟩) fun us s1 ⟨vs, H1, I1, r, e1, e2⟩ => ⟨I1.kIn, ?_⟩) (by rfl) (by rfl)
  subst e1
  subst e2
  have P1 := I1.pin (a, oe) (List.mem_append_left _ hp)
  obtain ⟨vs1, hf1⟩ := hf
  have hot : L2H.Hot1 Y.A (a, oe) := ⟨hh, vs1, hf1, hz.2.2 vs1 hf1⟩
  have hq : L2H.PinOk Y.stack H1 s1 (a, oe) := ⟨P1.1, P1.2.1, fun hm => (List.mem_cons.mp (I1.stkSub _ hm)).elim P1.2.2.1 P1.2.2.2.1, P1.2.2.2.2⟩
  have hl : us.length = 1 := by rw [← r.length]; rfl
  have b := bt s1 us I1.kIn (by rw [List.append_nil]; exact hl)
  rw [List.append_nil] at b
  refine wpAny_call (codeAny_mono (run_hot (k := k) (P := Y.prog) (w := Y.w) (mg := Y.mg) (base := Y.base) (Q := Q) Ft sc__law_term hr hq I1.env0 b r rfl fun cdv _ => walk_term (N := 0) B b_ve T g_InvalidCurve g_InvalidNumber g_InvalidPath g_InvalidText g_TooMany g_NothingToUndo hx hot hz.1 hz.2.1 h) fun r' s' hq' => ?_)
  cases r' with
  | error e => exact (show False from hq').elim
  | ok fl =>
    cases fl with
    | ret u => exact I1.after hq'
    | next => exact False.elim hq'
    | brk => exact False.elim hq'
    | cont => exact False.elim hq'
theorem told_gives {fd : FuncData} (B : Blt X.mg) (b_ve : X.mg "ValueError" = none) (T : Kits X.K) (g_CurveError : X.mg "CurveError" = some (.ref (He.ga X.K "CurveError"))) (g_InvalidCurve : X.mg "InvalidCurve" = some (.ref (He.ga X.K "InvalidCurve"))) (g_InvalidNumber : X.mg "InvalidNumber" = some (.ref (He.ga X.K "InvalidNumber"))) (g_InvalidPath : X.mg "InvalidPath" = some (.ref (He.ga X.K "InvalidPath"))) (g_InvalidText : X.mg "InvalidText" = some (.ref (He.ga X.K "InvalidText"))) (g_TooMany : X.mg "TooMany" = some (.ref (He.ga X.K "TooMany"))) (g_NothingToUndo : X.mg "NothingToUndo" = some (.ref (He.ga X.K "NothingToUndo")))
    (Ft : FunD X.K "_law_term" "_law_term" (defArgs s__law_term) (defBody s__law_term) (defScope s__law_term) [] [] (He.ga X.K "_law_term") fd) (gt : X.mg "_law_term" = some (.ref (He.ga X.K "_law_term"))) {q : Str} {k : Nat} (cdv : Value) :
    GivesN X ["deed", "e"] "_law_told" (defScope s__law_told) (He.ga X.K "_law_told") cdv (defBody s__law_told) "deed" q (k + 2) (TTold X.K) := by
  intro f c' s H Q tl hr act hc h
  refine ⟨_, pss_one (L2N.ps_try_as (X := (cxOf CX0 X.prog X.w X.K X.mg X.base ["deed", "e"] "_law_told" (defScope s__law_told) (He.ga X.K "_law_told") cdv X.A X.stack s H E0).nox) (i := 1) (c := .ref (He.ga X.K "CurveError"))
      (tb := fun W D σ H => ∃ Ech : XK, (∀ cls d σ' H', Ech cls d H' → W cls d σ' H') ∧ σ[0]? = some (some (.ref f)) ∧ H c' = some (CodeO c' q) ∧ tl Ech H D.rt)
      (ts := fun a cls d D σ H => (∃ τ : L2.St, σ = τ.set 1 (some (.ref a))) ∧ ∃ x ∈ kinds6, cls = .ref (He.ga X.K x) ∧ d = none ∧ ∀ v H2, Same H H2 → Dp X.K H2 v (dErr x) → D.rt v H2)
      rfl rfl sc__law_told.nd rfl rfl ⟨rfl, by decide, .inl g_CurveError⟩ takesN0 (fun W pn xe tk _ => ?_) (fun a oe cls d pn hz hf => ?_)), ?_⟩
  · refine ⟨fun pins s' σ H' D I h' => ?_⟩
    obtain ⟨Ech, hW, h1, h2, h3⟩ := h'
    exact (pss_one (ps_ret (act W pn xe Ech _ _ tk hW))).run pins s' σ H' D I ⟨h1, h2, h3⟩
  · refine ⟨fun pins s' σ H' D I h' => ?_⟩
    obtain ⟨⟨τ, rfl⟩, x, hx, rfl, rfl, h3⟩ := h'
    have h1 : (τ.set 1 (some (V.ref a)))[1]? = some (some (V.ref a)) := by
      have hl := I.len
      rw [List.length_set] at hl
      have hl : τ.length = 2 := hl
      rw [List.getElem?_set_self (by omega)]
    exact (pss_one (ps_ret (pe_term (Y := (cxOf CX0 X.prog X.w X.K X.mg X.base ["deed", "e"] "_law_told" (defScope s__law_told) (He.ga X.K "_law_told") cdv X.A X.stack s H E0).nox.suite a ((a, oe) :: pn)) (i := 1) (y := "e") (k := k) B b_ve T g_InvalidCurve g_InvalidNumber g_InvalidPath g_InvalidText g_TooMany g_NothingToUndo Ft gt ⟨(hr.mono (by omega)).dp, (hr.mono (by omega)).un⟩ List.mem_cons_self rfl hx hz hf rfl rfl (Or.inl rfl)))).run pins s' _ H' D I ⟨h1, h3⟩
  · refine ⟨fun cls d H' => ∃ x ∈ kinds6, cls = .ref (He.ga X.K x) ∧ d = none ∧ ∀ v H2, Same H' H2 → Dp X.K H2 v (dErr x) → Q v H2, fun cls d σ' H' ⟨x, hx, e1, e2, h3⟩ => ?_, rfl, hc, h⟩
    subst e1
    exact ⟨true, T.exm x hx, fun _ a ha => ⟨⟨σ', rfl⟩, x, hx, rfl, e2, h3⟩, fun z => nomatch z⟩
end
end Bc
set_option Elab.async false
set_option linter.all false
set_option maxRecDepth 100000
set_option maxHeartbeats 4000000
namespace Bc
open PySem
/-! ### plain mirrors of roots.py and forms.py: roots lie in a store, named by their places -/
structure Rt where
  row : List Int
  ch : List (List Int)
  lo : Int × Int
  hi : Int × Int
abbrev Sto := List Rt
def chOk (c : List (List Int)) : Bool := Nat.ble c.length 1000 && c.all fun r => rowOk r && !r.isEmpty
def okR (r : Rt) : Bool := rowOk r.row && (chOk r.ch && (frOk r.lo && frOk r.hi))
def halveR (r : Rt) : Option Rt := match okR r with
  | true => match frOk (betweenM r.lo r.hi) with
    | true => some (if countM r.ch (some r.lo) (betweenM r.lo r.hi) = 1 then { r with hi := betweenM r.lo r.hi } else { r with lo := betweenM r.lo r.hi })
    | false => none
  | false => none
def halveM (S : Sto) (i : Nat) : Option Sto := match S[i]? with
  | some r => match halveR r with
    | some r' => some (S.set i r')
    | none => none
  | none => none
def againstR (r : Rt) (p : Int × Int) : Option Int := match okR r && frOk p with
  | true => some (if lessM r.lo p = true then (if lessM r.hi p = true then -1 else if signAtM r.row p = 0 then 0 else if countM r.ch (some r.lo) p = 1 then -1 else 1) else 1)
  | false => none
def maxAbs : List Int → Nat
  | [] => 0
  | x :: l => max x.natAbs (maxAbs l)
def boundM (row : List Int) : Int := 2 + (maxAbs row : Int).fdiv ((lastM row).natAbs : Int)
def rootsLoop (row : List Int) (ch : List (List Int)) : Nat → List ((Int × Int) × (Int × Int)) → List Rt → Option (List Rt)
  | 0, _, _ => none
  | _ + 1, [], found => some found
  | n + 1, (lo, hi) :: w, found => match frOk lo && frOk hi with
    | true => if countM ch (some lo) hi = 1 then rootsLoop row ch n w (found ++ [⟨row, ch, lo, hi⟩])
      else if 1 < countM ch (some lo) hi then rootsLoop row ch n ((lo, betweenM lo hi) :: (betweenM lo hi, hi) :: w) found
      else rootsLoop row ch n w found
    | false => none
def rootsM (row : List Int) : Option (List Rt) := if rowOk row = true then match simpleM row with
  | some r => if r.length < 2 then some [] else match chainM r with
    | some c => match rowOk r && (chOk c && decide (lastM r ≠ 0)) with
      | true => rootsLoop r c 1000 [((-boundM r, 1), (boundM r, 1))] []
      | false => none
    | none => none
  | none => none else none
def cmpLoop (i j : Nat) : Nat → Sto → Option (Sto × Int)
  | 0, _ => none
  | n + 1, S => match S[i]?, S[j]? with
    | some a, some b => match okR a && okR b with
      | true => if lessM b.lo a.hi = true then (if lessM a.lo b.hi = true then (match halveM S i with
          | some S1 => match halveM S1 j with
            | some S2 => cmpLoop i j n S2
            | none => none
          | none => none) else some (S, 1)) else some (S, -1)
      | false => none
    | _, _ => none
def cmpEq (a b : Rt) : Option Bool := match gcdM a.row b.row with
  | some g => if 1 < g.length then (match simpleM g with
    | some s => match chainM s with
      | some c => match rowOk g && (rowOk s && chOk c) with
        | true => some (lessM (if lessM a.lo b.lo = true then b.lo else a.lo) (if lessM a.hi b.hi = true then a.hi else b.hi) && decide (countM c (some (if lessM a.lo b.lo = true then b.lo else a.lo)) (if lessM a.hi b.hi = true then a.hi else b.hi) = 1))
        | false => none
      | none => none
    | none => none) else some false
  | none => none
def comparedM (S : Sto) (i j : Nat) : Option (Sto × Int) := match S[i]?, S[j]? with
  | some a, some b => match okR a && okR b with
    | true => match cmpEq a b with
      | some true => some (S, 0)
      | some false => cmpLoop i j 1000 S
      | none => none
    | false => none
  | _, _ => none
def posM (i : Nat) : Sto → List Nat → Nat → Option (Sto × Option Nat)
  | S, [], at' => some (S, some at')
  | S, f :: l, at' => match comparedM S i f with
    | some (S', s) => if s = 0 then some (S', none) else if s < 0 then some (S', some at') else posM i S' l (at' + 1)
    | none => none
def sortLoop : Sto → List Nat → List Nat → Option (Sto × List Nat)
  | S, found, [] => some (S, found)
  | S, found, i :: l => match posM i S found 0 with
    | some (S', some k) => sortLoop S' (found.take k ++ i :: found.drop k) l
    | some (S', none) => sortLoop S' found l
    | none => none
def sortedM (S : Sto) (l : List Nat) : Option (Sto × List Nat) := if Nat.ble l.length 10000 = true then sortLoop S [] l else none
def placeLoop (i j : Nat) : Nat → Sto → Option (Sto × (Int × Int))
  | 0, _ => none
  | n + 1, S => match S[i]?, S[j]? with
    | some a, some b => match okR a && okR b with
      | true => if lessM a.hi b.lo = true then some (S, betweenM a.hi b.lo) else (match halveM S i with
          | some S1 => match halveM S1 j with
            | some S2 => placeLoop i j n S2
            | none => none
          | none => none)
      | false => none
    | _, _ => none
def placeM (S : Sto) : Option Nat → Option Nat → Option (Sto × (Int × Int))
  | none, none => some (S, (0, 1))
  | none, some j => match S[j]? with
    | some b => some (S, (b.lo.1 - b.lo.2, b.lo.2))
    | none => none
  | some i, none => match S[i]? with
    | some a => some (S, (a.hi.1 + a.hi.2, a.hi.2))
    | none => none
  | some i, some j => placeLoop i j 1000 S
def placesM : Sto → Option Nat → List Nat → Option (Sto × List (Int × Int))
  | S, q, [] => match placeM S q none with
    | some (S', p) => some (S', [p])
    | none => none
  | S, q, i :: l => match placeM S q (some i) with
    | some (S', p) => match placesM S' (some i) l with
      | some (S'', ps) => some (S'', p :: ps)
      | none => none
    | none => none
def placesG (S : Sto) (l : List Nat) : Option (Sto × List (Int × Int)) := if Nat.ble l.length 10000 = true then placesM S none l else none
def numLoop (ch : List (List Int)) (i : Nat) : Nat → Sto → Option (Sto × Int)
  | 0, _ => none
  | n + 1, S => match S[i]? with
    | some a => match okR a with
      | true => if countM ch (some a.lo) a.hi = 1 then some (S, countM ch none a.hi) else (match halveM S i with
        | some S1 => numLoop ch i n S1
        | none => none)
      | false => none
    | none => none
def numberM (S : Sto) (i : Nat) (row : List Int) : Option (Sto × Int) := match simpleM row with
  | some r => match chainM r with
    | some c => match rowOk row && (rowOk r && chOk c) with
      | true => numLoop c i 1000 S
      | false => none
    | none => none
  | none => none
/-! forms.py -/
structure Bn where
  rows : List (List Int)
  roots : List Nat
def rowAtM (S : Sto) (p : Int × Int) : List Nat → List (List Int) → Option (List Int)
  | _, [] => none
  | [], r :: _ => some r
  | i :: l, r :: rs => match S[i]? with
    | some a => match againstR a p with
      | some s => if s < 0 then rowAtM S p l rs else some r
      | none => none
    | none => none
def joinGo : List (List Int) → List Nat → List Int → List (List Int) → List Nat → Option Bn
  | found, kept, _, _, [] => some ⟨found, kept⟩
  | found, kept, last, r :: rs, i :: l => if r = last then joinGo found kept last rs l else joinGo (found ++ [r]) (kept ++ [i]) r rs l
  | _, _, _, [], _ :: _ => none
def joinedM (rows : List (List Int)) (roots : List Nat) : Option Bn := match rows with
  | [] => none
  | r :: rs => joinGo [r] [] r rs roots
def crossGo (one other : Bn) : Sto → List (List Int) → List Nat → List (Int × Int) → Option (Sto × List Nat)
  | S, _, found, [] => some (S, found)
  | S, known, found, p :: ps => match rowAtM S p one.roots one.rows, rowAtM S p other.roots other.rows with
    | some a, some b => match rowOk a && rowOk b with
      | true => if rowSumM a b (-1) ≠ [] ∧ ¬ rowSumM a b (-1) ∈ known then (match rootsM (rowSumM a b (-1)) with
        | some rs => if Nat.ble (found.length + rs.length) 10000 = true then crossGo one other (S ++ rs) (known ++ [rowSumM a b (-1)]) (found ++ (List.range rs.length).map (S.length + ·)) ps else none
        | none => none) else crossGo one other S known found ps
      | false => none
    | _, _ => none
def crossM (S : Sto) (one other : Bn) (roots : List Nat) : Option (Sto × List Nat) := match placesG S roots with
  | some (S', ps) => crossGo one other S' [] [] ps
  | none => none
def pickM (kd : Kd) (a b : List Int) (p : Int × Int) : List Int := match kd with
  | .sum => rowSumM a b 1
  | .times => mulM a b
  | .max => if signAtM (rowSumM a b (-1)) p ≥ 0 then a else b
  | _ => if -signAtM (rowSumM a b (-1)) p ≥ 0 then a else b
def pickGo (kd : Kd) (S : Sto) (one other : Bn) : List (Int × Int) → Option (List (List Int))
  | [] => some []
  | p :: ps => match rowAtM S p one.roots one.rows, rowAtM S p other.roots other.rows with
    | some a, some b => match rowOk a && (rowOk b && (rowOk (rowSumM a b (-1)) && frOk p)) with
      | true => match pickGo kd S one other ps with
        | some l => some (pickM kd a b p :: l)
        | none => none
      | false => none
    | _, _ => none
def isMM : Kd → Bool
  | .max => true
  | .min => true
  | _ => false
def putEnd (kd : Kd) (one other : Bn) (S : Sto) (roots : List Nat) : Option (Sto × Bn) := match placesG S roots with
  | some (S', ps) => match pickGo kd S' one other ps with
    | some rows => match joinedM rows roots with
      | some b => some (S', b)
      | none => none
    | none => none
  | none => none
def putM (kd : Kd) (one other : Bn) (S : Sto) : Option (Sto × Bn) := match sortedM S (one.roots ++ other.roots) with
  | some (S1, roots) => if isMM kd = true then (match crossM S1 one other roots with
    | some (S2, more) => match sortedM S2 (roots ++ more) with
      | some (S3, roots3) => putEnd kd one other S3 roots3
      | none => none
    | none => none) else putEnd kd one other S1 roots
  | none => none
def ledRow (gap : List Int) : Sto → List Nat → List (List Int) → Option (Sto × List Nat)
  | S, found, [] => some (S, found)
  | S, found, r :: rs => match rowOk r with
    | true => match putInM r [] gap.reverse with
      | some led => if led ≠ [] then (match rootsM led with
        | some l => if Nat.ble (found.length + l.length) 10000 = true then ledRow gap (S ++ l) (found ++ (List.range l.length).map (S.length + ·)) rs else none
        | none => none) else ledRow gap S found rs
      | none => none
    | false => none
def ledGo (inner : List (List Int)) : Sto → List Nat → List Int → List (List Int) → List Nat → Option (Sto × List Nat)
  | S, found, _, _, [] => some (S, found)
  | S, found, r, r2 :: rs, _ :: l => match rowOk r && rowOk r2 with
    | true => match ledRow (rowSumM r r2 (-1)) S found inner with
      | some (S', f') => ledGo inner S' f' r2 rs l
      | none => none
    | false => none
  | _, _, _, [], _ :: _ => none
def ledPick (S : Sto) (outer inner : Bn) : List (Int × Int) → Option (List (List Int))
  | [] => some []
  | p :: ps => match rowAtM S p inner.roots inner.rows with
    | some r => match rowOk r && frOk p with
      | true => match Nat.blt (Int.gcd (valueAtM r p).1 (valueAtM r p).2).log2 9000 && decide ((valueAtM r p).2 ≠ 0) with
        | true => match rowAtM S (lowM (valueAtM r p).1 (valueAtM r p).2) outer.roots outer.rows with
          | some o => match putInM r [] o.reverse with
            | some z => match ledPick S outer inner ps with
              | some l => some (z :: l)
              | none => none
            | none => none
          | none => none
        | false => none
      | false => none
    | none => none
def ledM (outer inner : Bn) (S : Sto) : Option (Sto × Bn) := match outer.rows with
  | [] => none
  | r :: rs => match ledGo inner.rows S [] r rs outer.roots with
    | some (S1, more) => match sortedM S1 (inner.roots ++ more) with
      | some (S2, roots) => match placesG S2 roots with
        | some (S3, ps) => match ledPick S3 outer inner ps with
          | some rows => match joinedM rows roots with
            | some b => some (S3, b)
            | none => none
          | none => none
        | none => none
      | none => none
    | none => none
def negRows (l : List (List Int)) : List (List Int) := l.map fun r => rowSumM [] r (-1)
def bentM : Cv → Sto → Option (Sto × Bn)
  | .num n, S => some (S, ⟨[if n = 0 then [] else [n]], []⟩)
  | .x, S => some (S, ⟨[[0, 1]], []⟩)
  | .abs c, S => match bentM c S with
    | some (S1, b) => if b.rows.all rowOk = true then putM .max b ⟨negRows b.rows, b.roots⟩ S1 else none
    | none => none
  | .bin k c d, S => match bentM c S with
    | some (S1, one) => match bentM d S1 with
      | some (S2, other) => match k with
        | .into => ledM one other S2
        | k => putM k one other S2
      | none => none
    | none => none
inductive Fm where
  | row (r : List Int)
  | num (n : Int)
  deriving DecidableEq
def formGo : Sto → List Fm → List Int → List (List Int) → List Nat → Option (Sto × List Fm)
  | S, found, _, _, [] => some (S, found)
  | S, found, r, r2 :: rs, i :: l => match rowOk r && rowOk r2 with
    | true => match numberM S i (rowSumM r r2 (-1)) with
      | some (S', n) => formGo S' (found ++ [.num n, .row r2]) r2 rs l
      | none => none
    | false => none
  | _, _, _, [], _ :: _ => none
def formOfM (S : Sto) (b : Bn) : Option (Sto × List Fm) := match b.rows with
  | [] => none
  | r :: rs => if Nat.ble b.roots.length 10000 = true then formGo S [.row r] r rs b.roots else none
def formM (c : Cv) : Option (List Fm) := match bentM c [] with
  | some (S, b) => match formOfM S b with
    | some (_, f) => some f
    | none => none
  | none => none
end Bc
set_option Elab.async false
set_option linter.all false
set_option maxRecDepth 100000
set_option maxHeartbeats 4000000
namespace Bc
open PySem PySem.Spec PyProof.Rows L2
/-! ### a method of a class, a class made by its name -/
structure MetAt (K : PySem.W.Frag) (C m : Str) (st : Stmt) : Prop where
  fd : ∃ fd, FunD K m (C ++ "." ++ m) (defArgs st) (defBody st) (defScope st) [] [] (He.ma K (He.ga K C) m) fd
  cl : Cls K (He.ga K C)
  me : Meth K (He.ga K C) m (He.ma K (He.ga K C) m)
structure MakAt (K : PySem.W.Frag) (mg : Str → Option Value) (C : Str) (st : Stmt) : Prop where
  fd : ∃ fd, FunD K "__init__" (C ++ "." ++ "__init__") (defArgs st) (defBody st) (defScope st) [] [] (He.ma K (He.ga K C) "__init__") fd
  cl : Cls K (He.ga K C)
  mkr : Mk K (He.ga K C) (He.ma K (He.ga K C) "__init__")
  gl : mg C = some (.ref (He.ga K C))
structure CalM (P : Program) (w : World) (K : PySem.W.Frag) (mg : Str → Option Value) (base : Heap) (CX : CXT) (k : Nat) (C m : Str) (ps : List Str) (sp : Sp) : Prop where
  ex : ∃ fd, FnOk P w K mg base CX k (He.ma K (He.ga K C) m) fd ps sp ∧ Binds K fd ps []
  cl : Cls K (He.ga K C)
  me : Meth K (He.ga K C) m (He.ma K (He.ga K C) m)
structure CalK (P : Program) (w : World) (K : PySem.W.Frag) (mg : Str → Option Value) (base : Heap) (CX : CXT) (k : Nat) (C : Str) (ps : List Str) (sp : Sp) : Prop where
  ex : ∃ fd, FnOk P w K mg base CX k (He.ma K (He.ga K C) "__init__") fd ps sp ∧ Binds K fd ps []
  mkr : Mk K (He.ga K C) (He.ma K (He.ga K C) "__init__")
  gl : mg C = some (.ref (He.ga K C))
section
variable {X : Cx} {CX : CXT} {k : Nat} {ps : List Str} {sp : Sp} {E : XK} {x C m : Str} {p pos apos : Pos} {e o : Expr} {es : List Expr} {ta : TE} {t : TA}
theorem pe_mk (G : CalK X.prog X.w X.K X.mg X.base CX k C ps sp) (hr : Room (k + 1) X.A) (hx : Passes CX X E) (ha : PA X (e :: es) t) (hg : Gl X C := by rfl)
    (hdb : (C == ("__debug__" : Str)) = false := by decide) (he : starEach (e :: es) X.env = (false, eval e X.env) :: starEach es X.env := by rfl) (hpl : (backTo pos (starEach es X.env)).any (·.1) = false := by rfl) :
    PE X (.Call (.Name C p) (e :: es) [] pos) (tMake (He.ga X.K C) sp [] E t) := by
  obtain ⟨⟨fd, F, b⟩, mk, gl⟩ := G
  exact pe_make mk F hr hg gl b .nil hx ha hdb he hpl
theorem pe_mt {pl : Sem Bool} (he : PE X o ta) (G : CalM X.prog X.w X.K X.mg X.base CX k C m ps sp) (hr : Room k X.A) (hx : Passes CX X E) (ha : PA X (e :: es) t)
    (hst : starEach (e :: es) X.env = (false, eval e X.env) :: starEach es X.env := by rfl) (hpl : (backTo pos (starEach es X.env)).any (·.1) = false := by rfl)
    (ht : eval (.Call (.Attribute o m apos) (e :: es) [] pos) X.env = (do
      let ov ← eval o X.env
      standAt apos.atName
      let (f, first) ← holding [ov] (getMethod ov m pl)
      callWith pos f first (backTo pos (starEach (e :: es) X.env)) (backToKw pos (keywordEach [] X.env))) := by rfl) :
    PE X (.Call (.Attribute o m apos) (e :: es) [] pos) (tMeth (He.ga X.K C) m sp [] E ta t) := by
  obtain ⟨⟨fd, F, b⟩, cl, me⟩ := G
  exact pe_meth (pl := pl) he cl me F hr b .nil hx ha hst hpl ht
theorem pe_mt0 {pl : Sem Bool} (he : PE X o ta) (G : CalM X.prog X.w X.K X.mg X.base CX k C m ps sp) (hr : Room k X.A) (hx : Passes CX X E)
    (ht : eval (.Call (.Attribute o m apos) [] [] pos) X.env = (do
      let ov ← eval o X.env
      standAt apos.atName
      let (f, first) ← holding [ov] (getMethod ov m pl)
      callWith pos f first (backTo pos (starEach [] X.env)) (backToKw pos (keywordEach [] X.env))) := by rfl) :
    PE X (.Call (.Attribute o m apos) [] [] pos) (tMeth (He.ga X.K C) m sp [] E ta tNil) := by
  obtain ⟨⟨fd, F, b⟩, cl, me⟩ := G
  exact pe_meth0 (pl := pl) he cl me F hr b .nil hx ht
end
theorem met_of0 {P : Program} {w : World} {K : PySem.W.Frag} {mg : Str → Option Value} {base : Heap} {k : Nat} {C m : Str} {N ps : List Str} {sp : Sp} {st : Stmt} (G : MetAt K C m st) (S : FnScope N ps (defScope st))
    (hb : ∀ (kV doc pm : Value) (an : Option Addr) (cdv ct : Value) (us : List Value), us.length = ps.length → bindArgs (PySem.W.fnOf m (C ++ "." ++ m) (defArgs st) (defBody st) (defScope st) .none kV doc pm an cdv ct) ⟨us, []⟩ = pure (ps.zip us))
    (len : ∀ vs H Q E, sp vs H Q E → vs.length = ps.length)
    (hbody : ∀ (cdv : Value) (A : Around) (outer : List Env) (s : Shared) (H : Hp) (vs : List V) (Q : VK) (E : XK), Room k (A.deeper (envOfC (C ++ "." ++ m) (defScope st) s.heap.objs.size (He.ma K (He.ga K C) m) cdv)) → sp vs H Q E →
      ∃ t, PSs (cxOf CX0 P w K mg base N (C ++ "." ++ m) (defScope st) (He.ma K (He.ga K C) m) cdv A outer s H E).nox (defBody st) t ∧ t { nx := fun _ H' => Q .non H', rt := Q } (start N vs) H) :
    CalM P w K mg base CX0 (k + 1) C m ps sp := by
  obtain ⟨⟨fd, F⟩, cl, me⟩ := G
  exact ⟨⟨fd, F.ok S len fun cdv A outer s H vs Q E hr h => by
    obtain ⟨t, h1, h2⟩ := hbody cdv A outer s H vs Q E hr h
    exact ⟨t, h1.nox, h2⟩, F.bindsN hb⟩, cl, me⟩
theorem mak_of0 {P : Program} {w : World} {K : PySem.W.Frag} {mg : Str → Option Value} {base : Heap} {k : Nat} {C : Str} {N ps : List Str} {sp : Sp} {st : Stmt} (G : MakAt K mg C st) (S : FnScope N ps (defScope st))
    (hb : ∀ (kV doc pm : Value) (an : Option Addr) (cdv ct : Value) (us : List Value), us.length = ps.length → bindArgs (PySem.W.fnOf "__init__" (C ++ "." ++ "__init__") (defArgs st) (defBody st) (defScope st) .none kV doc pm an cdv ct) ⟨us, []⟩ = pure (ps.zip us))
    (len : ∀ vs H Q E, sp vs H Q E → vs.length = ps.length)
    (hbody : ∀ (cdv : Value) (A : Around) (outer : List Env) (s : Shared) (H : Hp) (vs : List V) (Q : VK) (E : XK), Room k (A.deeper (envOfC (C ++ "." ++ "__init__") (defScope st) s.heap.objs.size (He.ma K (He.ga K C) "__init__") cdv)) → sp vs H Q E →
      ∃ t, PSs (cxOf CX0 P w K mg base N (C ++ "." ++ "__init__") (defScope st) (He.ma K (He.ga K C) "__init__") cdv A outer s H E).nox (defBody st) t ∧ t { nx := fun _ H' => Q .non H', rt := Q } (start N vs) H) :
    CalK P w K mg base CX0 (k + 1) C ps sp := by
  obtain ⟨⟨fd, F⟩, cl, mk, gl⟩ := G
  exact ⟨⟨fd, F.ok S len fun cdv A outer s H vs Q E hr h => by
    obtain ⟨t, h1, h2⟩ := hbody cdv A outer s H vs Q E hr h
    exact ⟨t, h1.nox, h2⟩, F.bindsN hb⟩, mk, gl⟩
/-! ### all but roots stays -/
def Kp (K : PySem.W.Frag) (H H' : Hp) : Prop := ∀ a o, H a = some o → (∀ dx fs, o ≠ .ins (He.ga K "Root") dx fs) → H' a = some o
section
variable {K : PySem.W.Frag} {H H' H'' : Hp}
theorem Kp.refl : Kp K H H := fun _ _ e _ => e
theorem Kp.trans (h : Kp K H H') (k : Kp K H' H'') : Kp K H H'' := fun a o e n => k a o (h a o e n) n
theorem Same.kp (h : Same H H') : Kp K H H' := fun a o e _ => h a o e
theorem Kp.mut {p : Addr} {o : HO} (e : Kp K H H') (h : H p = none) : Kp K H (upd H' p o) := fun a u ha n => by
  rw [upd_ne (ne_of_none ha h)]
  exact e a u ha n
theorem Kp.new {p : Addr} {o : HO} (h : H p = none) : Kp K H (upd H p o) := Same.kp (Same.new h)
/-- a root changes -/
theorem Kp.root {p dx : Addr} {fs : List (Str × V)} {o : HO} (h : H p = some (.ins (He.ga K "Root") dx fs)) : Kp K H (upd H p o) := fun a u ha n => by
  have : a ≠ p := fun z => by
    rw [z, h] at ha
    cases ha
    exact n _ _ rfl
  rw [upd_ne this]
  exact ha
theorem Kp.t {a : Addr} {xs : List V} (e : Kp K H H') (h : SqT K H a xs) : SqT K H' a xs := by
  rcases h with (h | ⟨o, h⟩) | h
  · exact Or.inl (Or.inl (e a _ h (fun _ _ z => by cases z)))
  · exact Or.inl (Or.inr ⟨o, e a _ h (fun _ _ z => by cases z)⟩)
  · exact Or.inr h
theorem Kp.l {a : Addr} {xs : List V} (e : Kp K H H') (h : SqL K H a xs) : SqL K H' a xs := by
  rcases h with (h | ⟨o, h⟩) | h
  · exact Or.inl (Or.inl (e a _ h (fun _ _ z => by cases z)))
  · exact Or.inl (Or.inr ⟨o, e a _ h (fun _ _ z => by cases z)⟩)
  · exact Or.inr h
theorem Kp.lst {a : Addr} {xs : List V} (e : Kp K H H') (h : H a = some (.lst xs)) : H' a = some (.lst xs) := e a _ h (fun _ _ z => by cases z)
theorem IsRow.kp {v : V} {r : List Int} (h : IsRow K H v r) (e : Kp K H H') : IsRow K H' v r := let ⟨a, e1, h1⟩ := h; ⟨a, e1, e.t h1⟩
theorem IsFr.kp {v : V} {r : Int × Int} (h : IsFr K H v r) (e : Kp K H H') : IsFr K H' v r := let ⟨a, e1, h1⟩ := h; ⟨a, e1, e.t h1⟩
theorem Rws.kp (e : Kp K H H') : ∀ {vs : List V} {rs : List (List Int)}, Rws K H vs rs → Rws K H' vs rs
  | _, _, .nil => .nil
  | _, _, .cons h t => .cons (h.kp e) (Rws.kp e t)
theorem IsRowN.kp {v : V} {r : List Int} (h : IsRowN H v r) (e : Kp K H H') : IsRowN H' v r := let ⟨a, e1, h1⟩ := h; ⟨a, e1, e _ _ h1 (fun _ _ z => by cases z)⟩
theorem RwsN.kp (e : Kp K H H') : ∀ {vs : List V} {rs : List (List Int)}, RwsN H vs rs → RwsN H' vs rs
  | _, _, .nil => .nil
  | _, _, .cons h t => .cons (h.kp e) (RwsN.kp e t)
theorem IsRowsN.kp {v : V} {c : List (List Int)} (h : IsRowsN H v c) (e : Kp K H H') : IsRowsN H' v c := let ⟨a, vs, e1, h1, h2⟩ := h; ⟨a, vs, e1, e.lst h1, h2.kp e⟩
theorem IsRows.kp {v : V} {c : List (List Int)} (h : IsRows K H v c) (e : Kp K H H') : IsRows K H' v c := let ⟨a, vs, e1, h1, h2⟩ := h; ⟨a, vs, e1, e.lst h1, h2.kp e⟩
mutual
theorem Dp.kp (e : Kp K H H') : ∀ {v : V} {d : PyData}, Dp K H v d → Dp K H' v d
  | _, _, .non => .non
  | _, _, .bl b => .bl b
  | _, _, .int i => .int i
  | _, _, .str x => .str x
  | _, _, .lst h a => .lst (e.l h) (DpAll.kp e a)
  | _, _, .tup h a => .tup (e.t h) (DpAll.kp e a)
theorem DpAll.kp (e : Kp K H H') : ∀ {vs : List V} {ds : List PyData}, DpAll K H vs ds → DpAll K H' vs ds
  | _, _, .nil => .nil
  | _, _, .cons h a => .cons (Dp.kp e h) (DpAll.kp e a)
end
end
/-! ### the store of roots: of each its address and that of its chain -/
abbrev Ads := List (Addr × Addr)
def rtF (r c l h : V) : List (Str × V) := [("row", r), ("chain", c), ("low", l), ("high", h)]
structure RtAt (K : PySem.W.Frag) (H : Hp) (q : Addr × Addr) (r : Rt) : Prop where
  ex : ∃ dx vr vl vh, H q.1 = some (.ins (He.ga K "Root") dx (rtF vr (.ref q.2) vl vh)) ∧ IsRow K H vr r.row ∧ IsRows K H (.ref q.2) r.ch ∧ IsFr K H vl r.lo ∧ IsFr K H vh r.hi
structure StAt (K : PySem.W.Frag) (H : Hp) (ad : Ads) (S : Sto) : Prop where
  len : ad.length = S.length
  nd : (ad.map (·.1)).Nodup
  rt : ∀ (i : Nat) a r, ad[i]? = some a → S[i]? = some r → RtAt K H a r
/-- no chain lies there -/
def Far (ad : Ads) (D : Addr) : Prop := ∀ q ∈ ad, q.2 ≠ D
section
variable {K : PySem.W.Frag} {H H' : Hp} {ad ad2 : Ads} {S : Sto} {D : Addr}
theorem RtAt.ex' {a : Addr × Addr} {r : Rt} (h : RtAt K H a r) (e : Same H H') : RtAt K H' a r := by
  obtain ⟨dx, vr, vl, vh, h1, h2, h3, h4, h5⟩ := h
  exact ⟨dx, vr, vl, vh, e _ _ h1, h2.ex e, h3.ex e, h4.ex e, h5.ex e⟩
theorem StAt.ex (h : StAt K H ad S) (e : Same H H') : StAt K H' ad S := ⟨h.len, h.nd, fun i a r h1 h2 => (h.rt i a r h1 h2).ex' e⟩
theorem IsFr.lst {l : List V} {o : HO} {v : V} {r : Int × Int} (h : IsFr K H v r) (hD : H D = some (.lst l)) : IsFr K (upd H D o) v r := let ⟨a, e, h⟩ := h; ⟨a, e, sqt_lst hD h⟩
theorem RtAt.lst {a : Addr × Addr} {r : Rt} {l : List V} {o : HO} (h : RtAt K H a r) (hD : H D = some (.lst l)) (hn : a.2 ≠ D) : RtAt K (upd H D o) a r := by
  obtain ⟨dx, vr, vl, vh, h1, h2, ⟨c, vs, e, h3, h3'⟩, h4, h5⟩ := h
  cases e
  refine ⟨dx, vr, vl, vh, ?_, h2.lst hD, ⟨_, vs, rfl, by rw [upd_ne hn]; exact h3, h3'.lst hD⟩, h4.lst hD, h5.lst hD⟩
  rw [upd_ne (fun z => by rw [z, hD] at h1; cases h1)]
  exact h1
theorem StAt.lst {l : List V} {o : HO} (h : StAt K H ad S) (hD : H D = some (.lst l)) (hn : Far ad D) : StAt K (upd H D o) ad S :=
  ⟨h.len, h.nd, fun i a r h1 h2 => (h.rt i a r h1 h2).lst hD (hn a (List.mem_of_getElem? h1))⟩
theorem StAt.at (h : StAt K H ad S) {i : Nat} {r : Rt} (hi : S[i]? = some r) : ∃ a, ad[i]? = some a ∧ RtAt K H a r := by
  have hl : i < ad.length := by rw [h.len]; exact (List.getElem?_eq_some_iff.mp hi).1
  exact ⟨ad[i], List.getElem?_eq_getElem hl, h.rt i _ r (List.getElem?_eq_getElem hl) hi⟩
theorem StAt.at' (h : StAt K H ad S) {q : Addr × Addr} (hq : q ∈ ad) : ∃ r, RtAt K H q r := by
  obtain ⟨i, hi⟩ := List.getElem?_of_mem hq
  have hl : i < S.length := by rw [← h.len]; exact (List.getElem?_eq_some_iff.mp hi).1
  exact ⟨S[i], h.rt i q _ hi (List.getElem?_eq_getElem hl)⟩
/-- what is new is far from the chains -/
theorem StAt.far (h : StAt K H ad S) (hD : H D = none) : Far ad D := fun q hq z => by
  obtain ⟨r, dx, vr, vl, vh, h1, h2, ⟨c, vs, e, h3, _⟩, _⟩ := h.at' hq
  cases e
  rw [z, hD] at h3
  cases h3
theorem Far.app (h : Far ad D) (k : ∀ q ∈ ad2, q.2 ≠ D) : Far (ad ++ ad2) D := fun q hq => by
  rcases List.mem_append.mp hq with h1 | h1
  · exact h q h1
  · exact k q h1
/-- one root of the store changes -/
theorem StAt.set (h : StAt K H ad S) {i : Nat} {a : Addr × Addr} {dx : Addr} {fs : List (Str × V)} {r : Rt} {vr vl vh : V} (ha : ad[i]? = some a) (hp : H a.1 = some (.ins (He.ga K "Root") dx fs)) (h2 : IsRow K H vr r.row) (h3 : IsRows K H (.ref a.2) r.ch) (h4 : IsFr K H vl r.lo) (h5 : IsFr K H vh r.hi) :
    StAt K (upd H a.1 (.ins (He.ga K "Root") dx (rtF vr (.ref a.2) vl vh))) ad (S.set i r) := by
  have e : Kp K H (upd H a.1 (.ins (He.ga K "Root") dx (rtF vr (.ref a.2) vl vh))) := Kp.root hp
  refine ⟨by rw [List.length_set]; exact h.len, h.nd, fun j b u h1 hu => ?_⟩
  by_cases hij : i = j
  · subst hij
    rw [ha] at h1
    cases h1
    rw [List.getElem?_set_self (by rw [← h.len]; exact (List.getElem?_eq_some_iff.mp ha).1)] at hu
    cases hu
    exact ⟨dx, vr, vl, vh, upd_same, h2.kp e, h3.kp e, h4.kp e, h5.kp e⟩
  · rw [List.getElem?_set_ne hij] at hu
    obtain ⟨dx', wr, wl, wh, g1, g2, g3, g4, g5⟩ := h.rt j b u h1 hu
    refine ⟨dx', wr, wl, wh, ?_, g2.kp e, g3.kp e, g4.kp e, g5.kp e⟩
    rw [upd_ne (fun z => ?_)]
    · exact g1
    · obtain ⟨hi', e1⟩ := List.getElem?_eq_some_iff.mp ha
      obtain ⟨hj', e2⟩ := List.getElem?_eq_some_iff.mp h1
      refine hij ((List.getElem_inj h.nd (h₀ := by rw [List.length_map]; exact hi') (h₁ := by rw [List.length_map]; exact hj')).mp ?_)
      rw [List.getElem_map, List.getElem_map, e1, e2, z]
theorem getElem?_app {α : Type} {l k : List α} {i : Nat} {x : α} (h : l[i]? = some x) : (l ++ k)[i]? = some x := by
  rw [List.getElem?_append_left (List.getElem?_eq_some_iff.mp h).1]; exact h
theorem StAt.push (h : StAt K H ad S) {a : Addr × Addr} {r : Rt} (ha : a.1 ∉ ad.map (·.1)) (hr : RtAt K H a r) : StAt K H (ad ++ [a]) (S ++ [r]) := by
  refine ⟨by rw [List.length_append, List.length_append, h.len]; rfl, ?_, fun i b u h1 h2 => ?_⟩
  · rw [List.map_append, List.nodup_append]
    exact ⟨h.nd, List.nodup_cons.mpr ⟨List.not_mem_nil, List.nodup_nil⟩, fun x hx y hy => by
      have hy : y ∈ [a.1] := hy
      rw [List.mem_singleton] at hy
      rw [hy]
      exact fun z => ha (z ▸ hx)⟩
  · by_cases hi : i < ad.length
    · rw [List.getElem?_append_left hi] at h1
      rw [List.getElem?_append_left (by rw [← h.len]; exact hi)] at h2
      exact h.rt i b u h1 h2
    · have hi1 : i < (ad ++ [a]).length := (List.getElem?_eq_some_iff.mp h1).1
      rw [List.length_append] at hi1
      have : i = ad.length := by have : i < ad.length + 1 := hi1; omega
      subst this
      rw [List.getElem?_append_right (Nat.le_refl _), Nat.sub_self] at h1
      rw [List.getElem?_append_right (by rw [h.len]; exact Nat.le_refl _), h.len, Nat.sub_self] at h2
      have e1 : a = b := by simpa using h1
      have e2 : r = u := by simpa using h2
      rw [← e1, ← e2]
      exact hr
/-- a new address is none of the store's -/
theorem StAt.fresh (h : StAt K H ad S) {a : Addr} (ha : H a = none) : a ∉ ad.map (·.1) := fun hm => by
  obtain ⟨q, hq, rfl⟩ := List.mem_map.mp hm
  obtain ⟨r, dx, vr, vl, vh, h1, _⟩ := h.at' hq
  rw [ha] at h1
  cases h1
/-- a list of roots, told by their places in the store -/
def PtsV (ad : Ads) (l : List Nat) : List V := l.map fun i => V.ref (ad.getD i (0, 0)).1
structure PtsAt (H : Hp) (ad : Ads) (v : V) (l : List Nat) : Prop where
  ex : ∃ a, v = .ref a ∧ H a = some (.lst (PtsV ad l))
  lt : ∀ i ∈ l, i < ad.length
theorem PtsV.app {l : List Nat} (h : ∀ i ∈ l, i < ad.length) : PtsV (ad ++ ad2) l = PtsV ad l := by
  unfold PtsV
  refine List.map_congr_left fun i hi => ?_
  rw [List.getD_eq_getElem?_getD, List.getD_eq_getElem?_getD, List.getElem?_append_left (h i hi)]
theorem PtsAt.app {v : V} {l : List Nat} (h : PtsAt H ad v l) : PtsAt H (ad ++ ad2) v l := by
  obtain ⟨⟨a, e, h1⟩, h2⟩ := h
  exact ⟨⟨a, e, by rw [PtsV.app h2]; exact h1⟩, fun i hi => by rw [List.length_append]; have := h2 i hi; omega⟩
theorem PtsAt.kp {v : V} {l : List Nat} (h : PtsAt H ad v l) (e : Kp K H H') : PtsAt H' ad v l := by
  obtain ⟨⟨a, ea, h1⟩, h2⟩ := h
  exact ⟨⟨a, ea, e.lst h1⟩, h2⟩
theorem PtsAt.ex' {v : V} {l : List Nat} (h : PtsAt H ad v l) (e : Same H H') : PtsAt H' ad v l := by
  obtain ⟨⟨a, ea, h1⟩, h2⟩ := h
  exact ⟨⟨a, ea, e _ _ h1⟩, h2⟩
theorem getD_some {i : Nat} {a : Addr × Addr} (h : ad[i]? = some a) : ad.getD i (0, 0) = a := by rw [List.getD_eq_getElem?_getD, h]; rfl
/-- an item of a list of roots -/
theorem PtsV.get {l : List Nat} (hl : ∀ i ∈ l, i < ad.length) {j : Nat} {v : V} (h : (PtsV ad l)[j]? = some v) : ∃ i q, l[j]? = some i ∧ ad[i]? = some q ∧ v = .ref q.1 := by
  unfold PtsV at h
  rw [List.getElem?_map] at h
  cases e : l[j]? with
  | none => rw [e] at h; cases h
  | some i =>
    rw [e] at h
    have hi := hl i (List.mem_of_getElem? e)
    have e2 : ad[i]? = some ad[i] := List.getElem?_eq_getElem hi
    refine ⟨i, ad[i], rfl, e2, ?_⟩
    rw [← Option.some.inj h]
    show V.ref (ad.getD i (0, 0)).1 = _
    rw [getD_some e2]
theorem PtsV.at {l : List Nat} {j i : Nat} {q : Addr × Addr} (h : l[j]? = some i) (hq : ad[i]? = some q) : (PtsV ad l)[j]? = some (.ref q.1) := by
  unfold PtsV
  rw [List.getElem?_map, h]
  show some (V.ref (ad.getD i (0, 0)).1) = _
  rw [getD_some hq]
end
end Bc
set_option Elab.async false
set_option linter.all false
set_option maxRecDepth 100000
set_option maxHeartbeats 4000000
namespace Bc
open PySem PySem.Spec PyProof.Rows L2
/-! ### a def without parameters -/
theorem pe_c0 {X : Cx} {CX : CXT} {k : Nat} {sp : Sp} {E : XK} {x : Str} {p pos : Pos} (G : Cal X.prog X.w X.K X.mg X.base CX k x [] sp) (hr : Room k X.A) (hx : Passes CX X E) (hg : Gl X x := by rfl) (hdb : (x == ("__debug__" : Str)) = false := by decide) : PE X (.Call (.Name x p) [] [] pos) (tCall sp [] E tNil) := by
  obtain ⟨⟨fd, F, b⟩, kp, gl⟩ := G
  exact pe_call0 F hr hg gl kp b .nil hx hdb
/-! ### the laws' heap: tuples stay, all but roots and one list stays -/
def Tp (K : PySem.W.Frag) (H H' : Hp) : Prop := ∀ a xs, SqT K H a xs → SqT K H' a xs
mutual
def noL : PyData → Bool
  | .list _ => false
  | .dict _ => false
  | .tuple xs => noLs xs
  | _ => true
def noLs : List PyData → Bool
  | [] => true
  | x :: xs => noL x && noLs xs
end
section
variable {K : PySem.W.Frag} {H H' H'' : Hp}
theorem Tp.refl : Tp K H H := fun _ _ h => h
theorem Tp.trans (h : Tp K H H') (k : Tp K H' H'') : Tp K H H'' := fun a xs e => k a xs (h a xs e)
theorem Kp.tp (h : Kp K H H') : Tp K H H' := fun _ _ e => h.t e
theorem Same.tp (h : Same H H') : Tp K H H' := fun _ _ e => ex_t h e
theorem Tp.set {D : Addr} {l : List V} {o : HO} (hD : H D = some (.lst l)) : Tp K H (upd H D o) := fun _ _ e => sqt_lst hD e
mutual
theorem Dp.tp (e : Tp K H H') : ∀ {d : PyData} {v : V}, noL d = true → Dp K H v d → Dp K H' v d
  | .none, _, _, .non => .non
  | .bool _, _, _, .bl b => .bl b
  | .int _, _, _, .int i => .int i
  | .str _, _, _, .str x => .str x
  | .tuple _, _, n, .tup h a => .tup (e _ _ h) (DpAll.tp e n a)
  | .list _, _, n, _ => by cases n
  | .dict _, _, n, _ => by cases n
theorem DpAll.tp (e : Tp K H H') : ∀ {ds : List PyData} {vs : List V}, noLs ds = true → DpAll K H vs ds → DpAll K H' vs ds
  | [], _, _, .nil => .nil
  | _ :: _, _, n, .cons h a => .cons (Dp.tp e (Bool.and_eq_true_iff.mp n).1 h) (DpAll.tp e (Bool.and_eq_true_iff.mp n).2 a)
end
theorem IsFr.tp {v : V} {r : Int × Int} (h : IsFr K H v r) (e : Tp K H H') : IsFr K H' v r := let ⟨a, e1, h1⟩ := h; ⟨a, e1, e _ _ h1⟩
theorem noL_d : ∀ c : Cv, noL c.d = true
  | .num n => rfl
  | .x => rfl
  | .abs a => by
    show (true && (noL a.d && true)) = true
    rw [noL_d a]; rfl
  | .bin k a b => by
    show (true && (noL a.d && (noL b.d && true))) = true
    rw [noL_d a, noL_d b]; rfl
/-- all but roots and what lies at D stays -/
def Dx (K : PySem.W.Frag) (D : Addr) (H H' : Hp) : Prop := ∀ a o, H a = some o → a ≠ D → (∀ dx fs, o ≠ .ins (He.ga K "Root") dx fs) → H' a = some o
variable {D : Addr}
theorem Dx.refl : Dx K D H H := fun _ _ e _ _ => e
theorem Dx.trans (h : Dx K D H H') (k : Dx K D H' H'') : Dx K D H H'' := fun a o e n r => k a o (h a o e n r) n r
theorem Kp.dx (h : Kp K H H') : Dx K D H H' := fun a o e _ r => h a o e r
theorem Same.dx (h : Same H H') : Dx K D H H' := fun a o e _ _ => h a o e
theorem Dx.set {o : HO} : Dx K D H (upd H D o) := fun a u e n _ => by rw [upd_ne n]; exact e
theorem Dx.tp (h : Dx K D H H') {l : List V} (hD : H D = some (.lst l)) : Tp K H H' := fun a xs e => by
  rcases e with (e | ⟨o, e⟩) | e
  · exact .inl (.inl (h a _ e (fun z => by rw [z, hD] at e; cases e) (fun _ _ z => by cases z)))
  · exact .inl (.inr ⟨o, h a _ e (fun z => by rw [z, hD] at e; cases e) (fun _ _ z => by cases z)⟩)
  · exact .inr e
theorem Dx.lst (h : Dx K D H H') {a : Addr} {l : List V} (hn : a ≠ D) (e : H a = some (.lst l)) : H' a = some (.lst l) := h a _ e hn (fun _ _ z => by cases z)
theorem Dx.sql (h : Dx K D H H') {a : Addr} {xs l : List V} (hD : H D = some (.lst l)) (hn : a ≠ D) (e : SqL K H a xs) : SqL K H' a xs := by
  rcases e with (e | ⟨o, e⟩) | e
  · exact .inl (.inl (h a _ e hn (fun _ _ z => by cases z)))
  · exact .inl (.inr ⟨o, h a _ e hn (fun _ _ z => by cases z)⟩)
  · exact .inr e
end
/-! ### expressions that make data -/
def Mks (K : PySem.W.Frag) (σ : L2.St) (H : Hp) (te : TE) (d : PyData) : Prop := ∀ H1, Tp K H H1 → ∀ Q : VK, (∀ v H', Kp K H1 H' → Dp K H' v d → Q v H') → te σ H1 Q
def MkA (K : PySem.W.Frag) (σ : L2.St) (H : Hp) (ta : TA) (ds : List PyData) : Prop := ∀ H1, Tp K H H1 → ∀ Q : List V → Hp → Prop, (∀ vs H', Kp K H1 H' → DpAll K H' vs ds → Q vs H') → ta σ H1 Q
section
variable {K : PySem.W.Frag} {σ : L2.St} {H H' : Hp}
theorem Mks.use {te : TE} {d : PyData} {Q : VK} (m : Mks K σ H te d) (h : ∀ v H', Kp K H H' → Dp K H' v d → Q v H') : te σ H Q := m H Tp.refl Q h
theorem Mks.tp {te : TE} {d : PyData} (m : Mks K σ H te d) (e : Tp K H H') : Mks K σ H' te d := fun H1 e1 => m H1 (e.trans e1)
theorem MkA.use {te : TA} {d : List PyData} {Q : List V → Hp → Prop} (m : MkA K σ H te d) (h : ∀ v H', Kp K H H' → DpAll K H' v d → Q v H') : te σ H Q := m H Tp.refl Q h
theorem mk_var {i : Nat} {v : V} {d : PyData} (hs : σ[i]? = some (some v)) (hd : Dp K H v d) (hn : noL d = true) : Mks K σ H (tVar i) d := fun H1 e1 Q h => ⟨v, hs, h _ _ Kp.refl (Dp.tp e1 hn hd)⟩
theorem mk_int {n : Int} : Mks K σ H (tC (.int n)) (.int n) := fun H1 _ Q h => h _ _ Kp.refl (.int n)
theorem mk_str {n : Str} : Mks K σ H (tC (.str n)) (.str n) := fun H1 _ Q h => h _ _ Kp.refl (.str n)
theorem mk_bl {n : Bool} : Mks K σ H (tC (.bl n)) (.bool n) := fun H1 _ Q h => h _ _ Kp.refl (.bl n)
theorem mk_non : Mks K σ H (tC .non) .none := fun H1 _ Q h => h _ _ Kp.refl .non
theorem mk_neg {te : TE} {n : Int} (m : Mks K σ H te (.int n)) : Mks K σ H (tUn (rU fun i => .int (-i)) te) (.int (-n)) := fun H1 e1 Q h => m H1 e1 _ fun v H2 e2 hv => by
  cases hv
  exact ⟨n, rfl, h _ _ e2 (.int _)⟩
theorem mk_op0 {ta tb : TE} {n m : Int} {g : Int → Int → Int} (a : Mks K σ H ta (.int n)) (b : Mks K σ H tb (.int m)) : Mks K σ H (tOp (rI0 fun i j => .int (g i j)) ta tb) (.int (g n m)) := fun H1 e1 Q h => a H1 e1 _ fun v H2 e2 hv => b H2 (e1.trans e2.tp) _ fun u H3 e3 hu => by
  cases hv; cases hu
  exact ⟨n, m, rfl, rfl, h _ _ (e2.trans e3) (.int _)⟩
theorem mk_op {ta tb : TE} {n m : Int} {C : Int → Int → Prop} {g : Int → Int → Int} (a : Mks K σ H ta (.int n)) (b : Mks K σ H tb (.int m)) (c : C n m) : Mks K σ H (tOp (rI C fun i j => .int (g i j)) ta tb) (.int (g n m)) := fun H1 e1 Q h => a H1 e1 _ fun v H2 e2 hv => b H2 (e1.trans e2.tp) _ fun u H3 e3 hu => by
  cases hv; cases hu
  exact ⟨n, m, rfl, rfl, c, h _ _ (e2.trans e3) (.int _)⟩
theorem mk_nil : MkA K σ H tNil [] := fun H1 _ Q h => h _ _ Kp.refl .nil
theorem mk_cons {te : TE} {ta : TA} {d : PyData} {ds : List PyData} (m : Mks K σ H te d) (ms : MkA K σ H ta ds) : MkA K σ H (tCons te ta) (d :: ds) := fun H1 e1 Q h => m H1 e1 _ fun v H2 e2 hv => ms H2 (e1.trans e2.tp) _ fun vs H3 e3 hvs =>
  h _ _ (e2.trans e3) (.cons (Dp.kp e3 hv) hvs)
theorem mk_tup {ta : TA} {ds : List PyData} (m : MkA K σ H ta ds) (hl : Nat.ble ds.length 100 = true := by rfl) : Mks K σ H (tTup ta) (.tuple ds) := fun H1 e1 Q h => m H1 e1 _ fun vs H2 e2 hvs => ⟨by rw [DpAll.length hvs]; exact Nat.le_trans (Nat.le_of_ble_eq_true hl) (by decide), fun p hp => h _ _ (e2.trans (Kp.new hp)) (.tup (SqT.of upd_same) (DpAll.ex (Same.new hp) hvs))⟩
theorem mk_cast {te : TE} {d e : PyData} (m : Mks K σ H te d) (h : d = e) : Mks K σ H te e := h ▸ m
/-- if a != b: return .. : they are equal -/
theorem step_ne {D : Ends} {ta tb : TE} {d e : PyData} {t rest : TS} (h1 : Mks K σ H ta d) (h2 : Mks K σ H tb e) (s1 : SeqAt.shaped d = true) (s2 : SeqAt.shaped e = true) (he : PyData.eqv d e = true) (hk : ∀ H', Kp K H H' → rest D σ H') :
    tSeq (tIfS (tTest (tOp (rNeD K) ta tb)) t tNext) rest D σ H := by
  refine h1.use fun v H1 e1 hv => (h2.tp e1.tp).use fun u H2 e2 hu => ⟨d, e, Dp.kp e2 hv, hu, s1, s2, _, rfl, ?_⟩
  rw [he]
  exact iteF (hk _ (e1.trans e2))
theorem end_ne {D : Ends} {ta tb : TE} {d e : PyData} {t : TS} (h1 : Mks K σ H ta d) (h2 : Mks K σ H tb e) (s1 : SeqAt.shaped d = true) (s2 : SeqAt.shaped e = true) (he : PyData.eqv d e = true) (hk : ∀ H', Kp K H H' → D.nx σ H') :
    tIfS (tTest (tOp (rNeD K) ta tb)) t tNext D σ H := by
  refine h1.use fun v H1 e1 hv => (h2.tp e1.tp).use fun u H2 e2 hu => ⟨d, e, Dp.kp e2 hv, hu, s1, s2, _, rfl, ?_⟩
  rw [he]
  exact iteF (hk _ (e1.trans e2))
theorem sg {f : L2.St → Hp → Prop} {σ : L2.St} {H : Hp} (σ' : L2.St) (e : σ' = σ) (h : f σ' H) : f σ H := e ▸ h
theorem step_asg {D : Ends} {te : TE} {d : PyData} {rest : TS} {g : TG} (h1 : Mks K σ H te d) (hk : ∀ v H', Kp K H H' → Dp K H' v d → g v σ H' (rest D)) : tSeq (tAsg te g) rest D σ H := h1.use hk
theorem step_set {D : Ends} {te : TE} {d : PyData} {rest : TS} {i : Nat} (h1 : Mks K σ H te d) (hk : ∀ v H', Kp K H H' → Dp K H' v d → rest D (σ.set i (some v)) H') : tSeq (tAsg te (gName i)) rest D σ H := h1.use hk
end
end Bc
set_option Elab.async false
set_option linter.all false
set_option maxRecDepth 100000
set_option maxHeartbeats 4000000
namespace Bc
open PySem PySem.Spec PyProof.Rows L2
/-! ### the laws' draws -/
def cellM (ns : List Int) (k : Nat) : Int := match ns with
  | [] => (k : Int) * 7919
  | _ :: _ => ns.getD (k % ns.length) 0 + ((k / ns.length : Nat) : Int) * 104729
def ScOk (ns : List Int) : Prop := ns.length ≤ 63 ∧ ∀ z ∈ ns, Builtin.Int.intBits z ≤ 1048576
theorem bd_bits {z : Int} (h : Builtin.Int.intBits z ≤ 1048576) : Bd 1048577 z := by
  unfold Builtin.Int.intBits at h
  split at h
  · rename_i h0
    have : z = 0 := by simpa using h0
    rw [this]
    exact bd_zero _
  · exact Bd.of_log2 (by omega)
theorem bd_small {n : Nat} {z : Int} {b : Nat} (h : z.natAbs ≤ b) (h2 : b < 2 ^ n) : Bd n z := Nat.lt_of_le_of_lt h h2
theorem bd_fmod {n : Nat} {z m : Int} (h : 0 < m) (h2 : m.natAbs ≤ 2 ^ n) : Bd n (z.fmod m) := by
  have h3 := Int.fmod_nonneg_of_pos z h
  have h4 := Int.fmod_lt_of_pos z h
  unfold Bd
  omega
theorem bd_fdiv {n : Nat} {z m : Int} (h : Bd n z) (hm : m ≠ 0) : Bd n (z.fdiv m) := Nat.lt_of_le_of_lt (fdiv_le z m hm) h
theorem cell_bd {ns : List Int} (h : ScOk ns) {k : Nat} (hk : k ≤ 1000) : Bd 1048600 (cellM ns k) := by
  cases ns with
  | nil =>
    refine Bd.mono (n := 30) (bd_small (b := 10000000) ?_ (by decide)) (by decide)
    show ((k : Int) * 7919).natAbs ≤ 10000000
    omega
  | cons a r =>
    refine Bd.add (n := 1048580) (Bd.mono (getD_bd (n := 1048577) (fun z hz => bd_bits (h.2 z hz)) _) (by decide)) (Bd.mono (n := 40) (bd_small (b := 104729000) ?_ (by decide)) (by decide)) (by decide)
    have h1 : k / (a :: r).length ≤ k := Nat.div_le_self _ _
    generalize k / (a :: r).length = q at h1 ⊢
    omega
section
variable {P : Program} {w : World} {K : PySem.W.Frag} {mg : Str → Option Value} {base : Heap}
theorem sc__law_cell : FnScope ["script", "k"] ["script", "k"] (defScope s__law_cell) := ⟨rfl, rfl, rfl, by decide +kernel, rfl, by decide +kernel, by decide +kernel⟩
def spCell (K : PySem.W.Frag) : Sp := fun vs H Q _ => ∃ (a : Addr) (ns : List Int) (k : Nat), vs = [.ref a, .int k] ∧ SqL K H a (ns.map V.int) ∧ ScOk ns ∧ k ≤ 1000 ∧ ∀ H', Same H H' → Q (.int (cellM ns k)) H'
theorem c__law_cell (B : Blt mg) (F : DefAt K mg "_law_cell" s__law_cell) : Cal P w K mg base CX0 1 "_law_cell" ["script", "k"] (spCell K) := by
  obtain ⟨⟨fd, F⟩, gl⟩ := F
  refine cal_of0 F gl sc__law_cell (fun _ _ _ _ _ _ us hl => match us, hl with | [_, _], _ => rfl) (fun vs H Q E h => by obtain ⟨_, _, _, rfl, _⟩ := h; rfl) (fun cdv A outer s H vs Q E hr h => ?_)
  obtain ⟨a, ns, k, rfl, ha, hs, hk, hq⟩ := h
  refine ⟨_, (pss_cons (ps_if (pt_cmpR (op_eqD hr.units) (pv 0) (pe_lst pa_nil) (nomark _))
        (pss_one (ps_ret (pe_op op_mulM (pv 1) pe_int)))
        pss_nil)
      (pss_one (ps_ret (pe_op op_add (pe_ix ix_list (pv 0) (pe_op op_modN (pv 1) (pe_callB call_len (by rfl) B.len (by decide +kernel) (pa_cons (pv 0) pa_nil))) (fun _ _ => rfl)) (pe_op op_mulM (pe_op op_fdivM (pv 1) (pe_callB call_len (by rfl) B.len (by decide +kernel) (pa_cons (pv 0) pa_nil))) pe_int))))), ?_⟩
  refine ⟨_, rfl, Nat.zero_le _, fun t ht => ⟨.list (ns.map PyData.int), .list ([].map PyData.int), .lst (ex_l (Same.new ht) ha) (dp_ints ns), .lst (SqL.of upd_same) .nil, shaped_lrow ns, shaped_lrow [], _, rfl, ?_⟩⟩
  rw [eqv_lrow]
  have e1 : Same H (upd H t (.lst [])) := Same.new ht
  have hkb : Bd 20 (k : Int) := bd_small (b := 1000) (by omega) (by decide)
  cases ns with
  | nil =>
    rw [decide_eq_true rfl]
    refine iteT ⟨_, rfl, _, _, rfl, rfl, hkb.cm (n := 20) (m := 20) (by unfold Bd; decide) (by decide), ?_⟩
    exact hq _ e1
  | cons z r =>
    rw [decide_eq_false (by simp)]
    have hl : (((z :: r).length : Nat) : Int) ≠ 0 := by simp only [List.length_cons]; omega
    have hl63 := hs.1
    have elen : ((z :: r).map V.int).length = (z :: r).length := List.length_map ..
    have hd : CD (k : Int) (((z :: r).length : Nat) : Int) := ⟨hl, by
      have : (((z :: r).length : Nat) : Int).natAbs.log2 ≤ 6 := Nat.le_of_lt_succ (by
        rw [Int.natAbs_natCast]
        exact (Nat.log2_lt (by simp)).mpr (by simp only [List.length_cons] at hl63 ⊢; omega))
      omega⟩
    have hidx : (z :: r)[k % (z :: r).length]? = some ((z :: r).getD (k % (z :: r).length) 0) := by
      have : k % (z :: r).length < (z :: r).length := Nat.mod_lt _ (by simp)
      rw [List.getD_eq_getElem?_getD, List.getElem?_eq_getElem this]
      rfl
    refine iteF ⟨_, rfl, _, rfl, _, rfl, _, _, rfl, .inl ⟨_, ex_l e1 ha, rfl⟩, _, _, rfl, rfl, by rw [elen]; exact hl, a, _, _, V.int ((z :: r).getD (k % (z :: r).length) 0), rfl, rfl, ex_l e1 ha, ?_, _, rfl, _, rfl, _, _, rfl, .inl ⟨_, ex_l e1 ha, rfl⟩, _, _, rfl, rfl, by rw [elen]; exact hd, _, _, rfl, rfl, ?_, _, _, rfl, rfl, ?_⟩
    · rw [elen, Int.fmod_eq_emod_of_nonneg _ (by omega)]
      exact atI_nat (xs := (z :: r).map V.int) (j := k % (z :: r).length) (by rw [List.getElem?_map, hidx]; rfl)
    · rw [elen]
      refine Bd.cm (n := 20) (m := 20) (bd_fdiv hkb hl) (by unfold Bd; decide) (by decide)
    · rw [elen]
      have := hq _ e1
      rw [show cellM (z :: r) k = (z :: r).getD (k % (z :: r).length) 0 + ((k : Int).fdiv (((z :: r).length : Nat) : Int)) * 104729 from by
        rw [Int.fdiv_eq_ediv_of_nonneg _ (by omega)]
        rfl] at this
      exact this
/-! _law_drawn -/
def drawnM (cell k : Int) : Int :=
  let m1 := (cell * 6364136223846793005 + (k + 1) * 1442695040888963407).fmod 340282366920938463463374607431768211507
  let m2 := (m1 * m1).fmod 340282366920938463463374607431768211297
  ((m2.fmod 18446744073709551557 + 1) * (m2.fdiv 18446744073709551557 + 1) * m2).fmod 340282366920938463463374607431768211507
theorem sc__law_drawn : FnScope ["cell", "k", "more"] ["cell", "k"] (defScope s__law_drawn) := ⟨rfl, rfl, rfl, by decide +kernel, rfl, by decide +kernel, by decide +kernel⟩
def spDrawn : Sp := fun vs H Q _ => ∃ (c k : Int), vs = [.int c, .int k] ∧ Bd 1048600 c ∧ Bd 100 k ∧ Q (.int (drawnM c k)) H
theorem c__law_drawn (F : DefAt K mg "_law_drawn" s__law_drawn) : Cal P w K mg base CX0 1 "_law_drawn" ["cell", "k"] spDrawn := by
  obtain ⟨⟨fd, F⟩, gl⟩ := F
  refine cal_of0 F gl sc__law_drawn (fun _ _ _ _ _ _ us hl => match us, hl with | [_, _], _ => rfl) (fun vs H Q E h => by obtain ⟨_, _, rfl, _⟩ := h; rfl) (fun cdv A outer s H vs Q E hr h => ?_)
  obtain ⟨c, k, rfl, hc, hk, hq⟩ := h
  refine ⟨_, (pss_cons (ps_set (i := 2) sc__law_drawn.nd rfl (Or.inl rfl) (pe_op op_modN (pe_op op_add (pe_op op_mulM (pv 0) pe_int) (pe_op op_mulM (pe_op op_add (pv 1) pe_int) pe_int)) pe_int))
      (pss_cons (ps_set (i := 2) sc__law_drawn.nd rfl (Or.inl rfl) (pe_op op_modN (pe_op op_mulM (pv 2) (pv 2)) pe_int))
      (pss_cons (ps_set (i := 2) sc__law_drawn.nd rfl (Or.inl rfl) (pe_op op_mulM (pe_op op_mulM (pe_op op_add (pe_op op_modN (pv 2) pe_int) pe_int) (pe_op op_add (pe_op op_fdivM (pv 2) pe_int) pe_int)) (pv 2)))
      (pss_one (ps_ret (pe_op op_modN (pv 2) pe_int)))))), ?_⟩
  have c1 : Bd 64 (6364136223846793005 : Int) := by unfold Bd; decide
  have c2 : Bd 64 (1442695040888963407 : Int) := by unfold Bd; decide
  have k1 : Bd 101 (k + 1) := hk.add (by unfold Bd; decide) (by decide)
  have one : Bd 129 (1 : Int) := by unfold Bd; decide
  have B1 : ∀ z : Int, Bd 129 (z.fmod 340282366920938463463374607431768211507) := fun z => bd_fmod (by decide) (by decide)
  have B2 : ∀ z : Int, Bd 129 (z.fmod 340282366920938463463374607431768211297) := fun z => bd_fmod (by decide) (by decide)
  have b3 : ∀ z : Int, Bd 130 (z.fmod 18446744073709551557 + 1) := fun z => Bd.add (n := 129) (bd_fmod (by decide) (by decide)) one (by decide)
  have b4 : ∀ z : Int, Bd 129 z → Bd 130 (z.fdiv 18446744073709551557 + 1) := fun z h => Bd.add (n := 129) (bd_fdiv h (by decide)) one (by decide)
  have n1 : (340282366920938463463374607431768211507 : Int) ≠ 0 := by decide
  have n2 : (340282366920938463463374607431768211297 : Int) ≠ 0 := by decide
  have n3 : (18446744073709551557 : Int) ≠ 0 := by decide
  refine ⟨_, rfl, _, _, rfl, rfl, hc.cm c1 (by decide), _, rfl, _, _, rfl, rfl, _, _, rfl, rfl, k1.cm c2 (by decide), _, _, rfl, rfl, _, _, rfl, rfl, n1, ?_⟩
  refine ⟨_, rfl, _, rfl, _, _, rfl, rfl, (B1 _).cm (B1 _) (by decide), _, _, rfl, rfl, n2, ?_⟩
  refine ⟨_, rfl, _, _, rfl, rfl, n3, _, _, rfl, rfl, _, rfl, _, _, rfl, rfl, ⟨n3, by decide⟩, _, _, rfl, rfl, _, _, rfl, rfl, (b3 _).cm (b4 _ (B2 _)) (by decide), _, rfl, _, _, rfl, rfl, ((b3 _).mul (b4 _ (B2 _))).cm (B2 _) (by decide), ?_⟩
  exact ⟨_, rfl, _, _, rfl, rfl, n1, hq⟩
/-! _law_roll -/
def rollM (d : Int × Int) (many : Int) : Int × (Int × Int) :=
  if 1000000000000000000 ≤ d.1 then (d.1.fmod many, (d.1.fdiv many, d.2)) else (((drawnM d.1 (d.2 + 1)).fdiv 8).fmod many, (d.1, d.2 + 1))
/-- dice of some rolls -/
def Dk (j : Nat) (d : Int × Int) : Prop := Bd 1048600 d.1 ∧ 0 ≤ d.2 ∧ d.2 ≤ (j : Int)
theorem Dk.roll {j : Nat} {d : Int × Int} (h : Dk j d) {m : Int} (hm : 0 < m) : Dk (j + 1) (rollM d m).2 := by
  obtain ⟨h1, h2, h3⟩ := h
  unfold rollM
  split
  · exact ⟨bd_fdiv h1 (by omega), h2, by show d.2 ≤ _; omega⟩
  · exact ⟨h1, by show 0 ≤ d.2 + 1; omega, by show d.2 + 1 ≤ _; omega⟩
theorem Dk.mono {j k : Nat} {d : Int × Int} (h : Dk j d) (hk : j ≤ k) : Dk k d := ⟨h.1, h.2.1, by have := h.2.2; omega⟩
theorem roll_bd (d : Int × Int) {m : Int} (hm : 0 < m) : 0 ≤ (rollM d m).1 ∧ (rollM d m).1 < m := by
  unfold rollM
  split
  · exact ⟨Int.fmod_nonneg_of_pos _ hm, Int.fmod_lt_of_pos _ hm⟩
  · exact ⟨Int.fmod_nonneg_of_pos _ hm, Int.fmod_lt_of_pos _ hm⟩
def dL (d : Int × Int) : List V := [.int d.1, .int d.2]
theorem sc__law_roll : FnScope ["dice", "many", "told"] ["dice", "many"] (defScope s__law_roll) := ⟨rfl, rfl, rfl, by decide +kernel, rfl, by decide +kernel, by decide +kernel⟩
def spRoll : Sp := fun vs H Q _ => ∃ (a : Addr) (d : Int × Int) (m : Int) (j : Nat), vs = [.ref a, .int m] ∧ H a = some (.lst (dL d)) ∧ 0 < m ∧ Bd 100 m ∧ Dk j d ∧ j ≤ 1000000 ∧ Q (.int (rollM d m).1) (upd H a (.lst (dL (rollM d m).2)))
theorem upd_upd {H : Hp} {a : Addr} {o u : HO} : upd (upd H a o) a u = upd H a u := by
  funext b
  by_cases h : b = a
  · subst h; rw [upd_same, upd_same]
  · rw [upd_ne h, upd_ne h, upd_ne h]
theorem c__law_roll (F : DefAt K mg "_law_roll" s__law_roll) (c__law_drawn : Cal P w K mg base CX0 1 "_law_drawn" ["cell", "k"] spDrawn) : Cal P w K mg base CX0 2 "_law_roll" ["dice", "many"] spRoll := by
  obtain ⟨⟨fd, F⟩, gl⟩ := F
  refine cal_of0 F gl sc__law_roll (fun _ _ _ _ _ _ us hl => match us, hl with | [_, _], _ => rfl) (fun vs H Q E h => by obtain ⟨_, _, _, _, rfl, _⟩ := h; rfl) (fun cdv A outer s H vs Q E hr h => ?_)
  obtain ⟨a, d, m, j, rfl, ha, hm, hmb, hD, hj, hq⟩ := h
  refine ⟨_, (pss_cons (ps_if (pt_cmpR op_ge (pe_ix ix_list (pv 0) pe_int (fun _ _ => rfl)) (pe_op op_pow pe_int pe_int) (nomark _))
        (pss_cons (ps_set (i := 2) sc__law_roll.nd rfl (Or.inl rfl) (pe_op op_modN (pe_ix ix_list (pv 0) pe_int (fun _ _ => rfl)) (pv 1)))
          (pss_cons (ps_asg (pe_op op_fdivM (pe_ix ix_list (pv 0) pe_int (fun _ _ => rfl)) (pv 1)) (pg_sub (pv 0) pe_int set_list))
          (pss_one (ps_ret (pv 2)))))
        pss_nil)
      (pss_cons (ps_asg (pe_op op_add (pe_ix ix_list (pv 0) pe_int (fun _ _ => rfl)) pe_int) (pg_sub (pv 0) pe_int set_list))
      (pss_one (ps_ret (pe_op op_modN (pe_op op_fdivM (pe_c c__law_drawn (hr.mono (by omega)) pass0 (pa_cons (pe_ix ix_list (pv 0) pe_int (fun _ _ => rfl)) (pa_cons (pe_ix ix_list (pv 0) pe_int (fun _ _ => rfl)) pa_nil))) pe_int) (pv 1)))))), ?_⟩
  have hm0 : m ≠ 0 := by omega
  have hmc : ∀ x : Int, CD x m := fun x => ⟨hm0, Nat.lt_of_le_of_lt hmb.log2 (by decide)⟩
  refine ⟨_, rfl, a, _, _, _, rfl, rfl, SqL.of ha, at0, _, _, rfl, rfl, ⟨by decide, by decide, by decide⟩, _, _, rfl, rfl, _, rfl, ?_⟩
  have e18 : ((10 : Int) ^ (18 : Int).toNat) = 1000000000000000000 := by decide
  rw [e18]
  by_cases hb : 1000000000000000000 ≤ d.1
  · rw [decide_eq_true hb]
    have er : rollM d m = (d.1.fmod m, (d.1.fdiv m, d.2)) := by unfold rollM; rw [if_pos hb]
    rw [er] at hq
    refine iteT ⟨_, rfl, a, _, _, _, rfl, rfl, SqL.of ha, at0, _, rfl, _, _, rfl, rfl, hm0, _, rfl, a, _, _, _, rfl, rfl, SqL.of ha, at0, _, rfl, _, _, rfl, rfl, hmc _, _, rfl, a, _, _, 0, rfl, rfl, ha, rfl, _, rfl, hq⟩
  · rw [decide_eq_false hb]
    have er : rollM d m = (((drawnM d.1 (d.2 + 1)).fdiv 8).fmod m, (d.1, d.2 + 1)) := by unfold rollM; rw [if_neg hb]
    rw [er] at hq
    have hd2 : Bd 100 (d.2 + 1) := bd_small (b := 1000001) (by have := hD.2.1; have := hD.2.2; omega) (by decide)
    refine iteF ⟨_, rfl, a, _, _, _, rfl, rfl, SqL.of ha, at1, _, _, rfl, rfl, _, rfl, a, _, _, 1, rfl, rfl, ha, rfl, ?_⟩
    exact ⟨_, rfl, a, _, _, _, rfl, rfl, SqL.of upd_same, at0, _, rfl, a, _, _, _, rfl, rfl, SqL.of upd_same, at1, _, _, rfl, hD.1, hd2, _, _, rfl, rfl, ⟨by decide, by decide⟩, _, rfl, _, _, rfl, rfl, hm0, hq⟩
/-! _law_rounds -/
def roundsM (ns : List Int) (most : Nat) : Nat := max 1 (min most ns.length)
theorem sc__law_rounds : FnScope ["script", "most", "k"] ["script", "most"] (defScope s__law_rounds) := ⟨rfl, rfl, rfl, by decide +kernel, rfl, by decide +kernel, by decide +kernel⟩
def spRounds (K : PySem.W.Frag) : Sp := fun vs H Q _ => ∃ (a : Addr) (ns : List Int) (most : Nat), vs = [.ref a, .int most] ∧ SqL K H a (ns.map V.int) ∧ ScOk ns ∧ most ≤ 63 ∧
  ∀ (R : Addr) (as : List Addr) (H' : Hp), Same H H' → H R = none → H' R = some (.lst (as.map V.ref)) → as.length = roundsM ns most → as.Nodup → (∀ (j : Nat) b, as[j]? = some b → b ≠ R ∧ H b = none ∧ H' b = some (.lst (dL (cellM ns j, 0)))) → Q (.ref R) H'
theorem max2' (m n : Int) : (if n > m then n else m) = max m n := by split <;> omega
theorem min2' (m n : Int) : (if n < m then n else m) = min m n := by split <;> omega
theorem c__law_rounds (B : Blt mg) (F : DefAt K mg "_law_rounds" s__law_rounds) (c__law_cell : Cal P w K mg base CX0 1 "_law_cell" ["script", "k"] (spCell K)) : Cal P w K mg base CX0 2 "_law_rounds" ["script", "most"] (spRounds K) := by
  obtain ⟨⟨fd, F⟩, gl⟩ := F
  refine cal_of0 F gl sc__law_rounds (fun _ _ _ _ _ _ us hl => match us, hl with | [_, _], _ => rfl) (fun vs H Q E h => by obtain ⟨_, _, _, rfl, _⟩ := h; rfl) (fun cdv A outer s H vs Q E hr h => ?_)
  obtain ⟨a, ns, most, rfl, ha, hs, hmost, hq⟩ := h
  refine ⟨_, (pss_one (ps_ret (pe_lc (own := [("k", 2)]) (g := gName 2) (tt := tYes) rfl sc__law_rounds.nd (pi_range1 (by rfl) B.range (pa_cons (pe_callB (call_max2 rfl) (by rfl) B.max (by decide +kernel) (pa_cons pe_int (pa_cons (pe_callB (call_min2 rfl) (by rfl) B.min (by decide +kernel) (pa_cons (pv 1) (pa_cons (pe_callB call_len (by rfl) B.len (by decide +kernel) (pa_cons (pv 0) pa_nil)) pa_nil))) pa_nil))) pa_nil)) (blkOk_by (own := [("k", 2)]) (N := ["script", "most", "k"]) (sc := defScope s__law_rounds) (by decide +kernel)) (fun _ _ _ _ _ => pg_name (i := 2) sc__law_rounds.nd rfl (Or.inl rfl)) (fun _ _ _ _ _ => pts_nil) (fun _ _ _ _ _ => (pe_lst (pa_cons (pe_c c__law_cell (hr.mono (by omega)) pass0 (pa_cons (pv 0) (pa_cons (pv 2) pa_nil))) (pa_cons pe_int pa_nil))))))), ?_⟩
  have hlen := hs.1
  refine ⟨_, rfl, _, rfl, _, _, rfl, .inl ⟨_, ha, rfl⟩, _, _, rfl, _, _, rfl, _, rfl, ?_, ?_, fun D hD => ?_⟩
  all_goals rw [max2', min2', List.length_map]
  · omega
  · omega
  have en : (max (1 : Int) (min (most : Int) (ns.length : Int))).toNat = roundsM ns most := by unfold roundsM; omega
  rw [en]
  have hr63 : roundsM ns most ≤ 63 := by unfold roundsM; omega
  refine lc_range (n := roundsM ns most) (fun i H2 => ∃ as : List Addr, as.length = i ∧ Same H H2 ∧ H2 D = some (.lst (as.map V.ref)) ∧ as.Nodup ∧ (∀ (j : Nat) b, as[j]? = some b → b ≠ D ∧ H b = none ∧ H2 b = some (.lst (dL (cellM ns j, 0))))) ⟨[], rfl, Same.new hD, upd_same, List.nodup_nil, fun j b h => by simp at h⟩ (fun i H2 hi h => ?_) (fun H2 h => ?_)
  · obtain ⟨as, hl, e, hD2, hnd, hal⟩ := h
    refine ⟨wipe_one, yes_of ?_⟩
    refine iteT ?_
    refine ⟨_, rfl, _, rfl, a, ns, i, by rw [Int.zero_add]; rfl, ex_l e ha, hs, by omega, fun H3 e3 => ⟨sz2, fun p hp => ?_⟩⟩
    have e4 : Same H2 (upd H3 p (.lst [.int (cellM ns i), .int 0])) := e3.trans (Same.new hp)
    have hpH2 : H2 p = none := e3.free hp
    have hpD : p ≠ D := fun z => by rw [z, hD2] at hpH2; cases hpH2
    refine ⟨as.map V.ref, e4 _ _ hD2, by rw [List.length_map]; exact sz60' (by omega), as ++ [p], by rw [List.length_append, hl]; rfl, Same.mut (e.trans e4) hD, by rw [upd_same, List.map_append]; rfl, ?_, fun j b hb => ?_⟩
    · refine List.nodup_append.mpr ⟨hnd, List.nodup_cons.mpr ⟨List.not_mem_nil, List.nodup_nil⟩, fun x hx y hy z => ?_⟩
      rw [List.mem_singleton.mp hy] at z
      obtain ⟨jj, hjj⟩ := List.getElem?_of_mem hx
      rw [z] at hjj
      have := (hal jj p hjj).2.2
      rw [hpH2] at this
      cases this
    · by_cases hj : j < as.length
      · rw [List.getElem?_append_left hj] at hb
        obtain ⟨h1, h2, h3⟩ := hal j b hb
        exact ⟨h1, h2, by rw [upd_ne h1]; exact e4 _ _ h3⟩
      · have hjl : j < (as ++ [p]).length := (List.getElem?_eq_some_iff.mp hb).1
        rw [List.length_append] at hjl
        have : j = as.length := by have : j < as.length + 1 := hjl; omega
        subst this
        rw [List.getElem?_append_right (Nat.le_refl _), Nat.sub_self] at hb
        have e2 : p = b := by simpa using hb
        subst e2
        exact ⟨hpD, e.free hpH2, by rw [upd_ne hpD, upd_same, hl]; rfl⟩
  · obtain ⟨as, hl, e, hD2, hnd, hal⟩ := h
    exact hq D as H2 e hD hD2 hl hnd hal
end
end Bc
set_option Elab.async false
set_option linter.all false
set_option maxRecDepth 100000
set_option maxHeartbeats 4000000
namespace Bc
open PySem PySem.Spec PyProof.Rows L2
/-! ### the laws' own fractions -/
section
variable {P : Program} {w : World} {K : PySem.W.Frag} {mg : Str → Option Value} {base : Heap}
end
end Bc
set_option Elab.async false
set_option linter.all false
set_option maxRecDepth 100000
set_option maxHeartbeats 4000000
set_option pp.maxSteps 600
namespace Bc
open PySem PySem.Spec PyProof.Rows L2
def leafM (d : Int × Int) : Cv × (Int × Int) := if 0 < (rollM d 3).1 then (.x, (rollM d 3).2) else (.num ((rollM (rollM d 3).2 9).1 - 4), (rollM (rollM d 3).2 9).2)
theorem Dk.leaf {j : Nat} {d : Int × Int} (h : Dk j d) : Dk (j + 2) (leafM d).2 := by
  unfold leafM
  split
  · exact (h.roll (by decide)).mono (by omega)
  · exact (h.roll (by decide)).roll (by decide)
/-! ### drawn curves -/
def kd7 (i : Int) : Kd := if i = 4 then .times else if i = 5 ∨ i = 8 then .max else if i = 6 then .min else if i = 7 then .into else .sum
def nodeA (f g : Int × Int → Cv × (Int × Int)) (d : Int × Int) : Cv × (Int × Int) :=
  if (rollM d 10).1 = 0 then leafM (rollM d 10).2
  else if (rollM d 10).1 < 3 then (.abs (f (rollM d 10).2).1, (f (rollM d 10).2).2)
  else (.bin (kd7 (rollM d 10).1) (f (rollM d 10).2).1 (g (f (rollM d 10).2).2).1, (g (f (rollM d 10).2).2).2)
def anyM : Nat → Int × Int → Cv × (Int × Int)
  | 0 => fun d => leafM (rollM d 10).2
  | 1 => nodeA (fun d => leafM (rollM d 10).2) (fun d => leafM (rollM d 10).2)
  | n + 2 => nodeA (anyM (n + 1)) (anyM n)
theorem anyM_succ (n : Nat) : anyM (n + 1) = nodeA (anyM n) (anyM (n - 1)) := by cases n <;> rfl
def cstA : Nat → Nat
  | 0 => 3
  | 1 => 7
  | n + 2 => 1 + cstA (n + 1) + cstA n
theorem cstA_succ (n : Nat) : cstA (n + 1) = 1 + cstA n + cstA (n - 1) := by cases n <;> rfl
theorem cstA_pos : ∀ n, 3 ≤ cstA n
  | 0 => Nat.le_refl _
  | n + 1 => by
    have := cstA_pos n
    rw [cstA_succ]
    omega
theorem Dk.any (n : Nat) : ∀ {j : Nat} {d : Int × Int}, Dk j d → Dk (j + cstA n) (anyM n d).2 := by
  induction n using Nat.strongRecOn with
  | _ n ih =>
    intro j d h
    cases n with
    | zero => exact ((h.roll (m := 10) (by decide)).leaf).mono (by show j + 1 + 2 ≤ j + 3; omega)
    | succ n =>
      have c3 := cstA_pos (n - 1)
      have c4 := cstA_pos n
      rw [anyM_succ, cstA_succ]
      unfold nodeA
      have h1 := h.roll (m := 10) (by decide)
      split
      · exact h1.leaf.mono (by omega)
      · have h2 := ih n (by omega) h1
        split
        · exact h2.mono (by omega)
        · exact (ih (n - 1) (by omega) h2).mono (by omega)
theorem leaf_in9 (d : Int × Int) : (leafM d).1.in9 = true ∧ (leafM d).1.depth = 1 ∧ (leafM d).1.size = 1 ∧ (leafM d).1.high ≤ 1 := by
  unfold leafM
  split
  · exact ⟨rfl, rfl, rfl, Nat.le_refl 1⟩
  · have := roll_bd (rollM d 3).2 (m := 9) (by decide)
    refine ⟨?_, rfl, rfl, Nat.zero_le _⟩
    show (decide (-9 ≤ (rollM (rollM d 3).2 9).1 - 4) && decide ((rollM (rollM d 3).2 9).1 - 4 ≤ 9)) = true
    rw [decide_eq_true (by omega), decide_eq_true (by omega)]
    rfl
theorem any_in9 (n : Nat) : ∀ d : Int × Int, (anyM n d).1.in9 = true ∧ (anyM n d).1.depth ≤ n + 1 := by
  induction n using Nat.strongRecOn with
  | _ n ih =>
    intro d
    cases n with
    | zero =>
      have := leaf_in9 (rollM d 10).2
      exact ⟨this.1, Nat.le_of_eq this.2.1⟩
    | succ n =>
      rw [anyM_succ]
      unfold nodeA
      split
      · have := leaf_in9 (rollM d 10).2
        exact ⟨this.1, by rw [this.2.1]; omega⟩
      · have h1 := ih n (by omega) (rollM d 10).2
        split
        · exact ⟨h1.1, by show (anyM n (rollM d 10).2).1.depth + 1 ≤ _; omega⟩
        · have h2 := ih (n - 1) (by omega) (anyM n (rollM d 10).2).2
          refine ⟨Bool.and_eq_true_iff.mpr ⟨h1.1, h2.1⟩, ?_⟩
          show max (anyM n (rollM d 10).2).1.depth (anyM (n - 1) (anyM n (rollM d 10).2).2).1.depth + 1 ≤ _
          omega
/-- _law_curve -/
def curveM (n : Nat) (d : Int × Int) : Cv × (Int × Int) := if (anyM n d).1.ok = true then anyM n d else
  (.bin .max (leafM (anyM n d).2).1 (.abs (leafM (leafM (anyM n d).2).2).1), (leafM (leafM (anyM n d).2).2).2)
theorem curve_ok (d : Int × Int) : (curveM 4 d).1.in9 = true ∧ (curveM 4 d).1.ok = true := by
  unfold curveM
  cases h : (anyM 4 d).1.ok with
  | true =>
    rw [if_pos rfl]
    exact ⟨(any_in9 4 d).1, h⟩
  | false =>
    rw [if_neg (by decide)]
    obtain ⟨a1, a2, a3, a4⟩ := leaf_in9 (anyM 4 d).2
    obtain ⟨b1, b2, b3, b4⟩ := leaf_in9 (leafM (anyM 4 d).2).2
    generalize (leafM (anyM 4 d).2).1 = x at a1 a2 a3 a4
    generalize (leafM (leafM (anyM 4 d).2).2).1 = y at b1 b2 b3 b4
    refine ⟨Bool.and_eq_true_iff.mpr ⟨a1, b1⟩, ?_⟩
    have dh : ∀ c : Cv, c.deg ≤ c.high := fun c => by cases c <;> first | exact Nat.le_refl _ | exact Nat.le_max_left _ _
    have hx := dh x
    have hy := dh y
    unfold Cv.ok
    refine Bool.and_eq_true_iff.mpr ⟨decide_eq_true ?_, decide_eq_true ?_⟩
    · show 1 + (x.size + (1 + y.size)) ≤ 15
      omega
    · show max (max x.deg y.deg) (max x.high (max y.deg y.high)) ≤ 6
      omega
section
variable {P : Program} {w : World} {K : PySem.W.Frag} {mg : Str → Option Value} {base : Heap}
theorem bd_sm {m : Int} (h : 0 ≤ m) (h2 : m ≤ 1000000) : Bd 100 m := bd_small (b := 1000000) (by omega) (by decide)
theorem sc__law_leaf : FnScope ["dice"] ["dice"] (defScope s__law_leaf) := ⟨rfl, rfl, rfl, by decide +kernel, rfl, by decide +kernel, by decide +kernel⟩
def spLeaf (K : PySem.W.Frag) (f : Int × Int → Cv × (Int × Int)) : Sp := fun vs H Q _ => ∃ (a : Addr) (d : Int × Int) (j : Nat), vs = [.ref a] ∧ H a = some (.lst (dL d)) ∧ Dk j d ∧ j ≤ 900000 ∧ ∀ v H', Dx K a H H' → H' a = some (.lst (dL (f d).2)) → Dp K H' v (f d).1.d → Q v H'
theorem c__law_leaf (F : DefAt K mg "_law_leaf" s__law_leaf) (c__law_roll : Cal P w K mg base CX0 2 "_law_roll" ["dice", "many"] spRoll) : Cal P w K mg base CX0 3 "_law_leaf" ["dice"] (spLeaf K leafM) := by
  obtain ⟨⟨fd, F⟩, gl⟩ := F
  refine cal_of0 F gl sc__law_leaf (fun _ _ _ _ _ _ us hl => match us, hl with | [_], _ => rfl) (fun vs H Q E h => by obtain ⟨_, _, _, rfl, _⟩ := h; rfl) (fun cdv A outer s H vs Q E hr h => ?_)
  obtain ⟨a, d, j, rfl, ha, hD, hj, ret⟩ := h
  refine ⟨_, (pss_one (ps_ret (pe_ifExp (pt_cmpR op_gt (pe_c c__law_roll (hr.mono (by omega)) pass0 (pa_cons (pv 0) (pa_cons pe_int pa_nil))) pe_int (nomark _)) (pe_tup (pa_cons pe_str pa_nil)) (pe_tup (pa_cons pe_str (pa_cons (pe_op op_sub (pe_c c__law_roll (hr.mono (by omega)) pass0 (pa_cons (pv 0) (pa_cons pe_int pa_nil))) pe_int) pa_nil)))))), ?_⟩
  refine ⟨_, rfl, a, d, 3, j, rfl, ha, by decide, bd_sm (by decide) (by decide), hD, by omega, _, _, rfl, rfl, _, rfl, ?_⟩
  have d1 : Dx K a H (upd H a (.lst (dL (rollM d 3).2))) := Dx.set
  have a1 : (upd H a (.lst (dL (rollM d 3).2))) a = some (.lst (dL (rollM d 3).2)) := upd_same
  generalize upd H a (.lst (dL (rollM d 3).2)) = H1 at *
  by_cases h : 0 < (rollM d 3).1
  · rw [decide_eq_true h]
    have e : leafM d = (.x, (rollM d 3).2) := by unfold leafM; rw [if_pos h]
    rw [e] at ret
    refine iteT ⟨(by show 1 ≤ sizeLine; decide), fun t ht => ?_⟩
    have s1 := Same.new (o := .tup [.str "x"]) ht
    exact ret _ _ (d1.trans (Same.dx s1)) (s1 _ _ a1) (.tup (SqT.of upd_same) (.cons (.str _) .nil))
  · rw [decide_eq_false h]
    have e : leafM d = (.num ((rollM (rollM d 3).2 9).1 - 4), (rollM (rollM d 3).2 9).2) := by unfold leafM; rw [if_neg h]
    rw [e] at ret
    refine iteF ⟨_, rfl, a, _, 9, j + 1, rfl, a1, by decide, bd_sm (by decide) (by decide), hD.roll (by decide), by omega, _, _, rfl, rfl, sz2, fun t ht => ?_⟩
    have s1 := Same.new (o := .tup [.str "num", .int ((rollM (rollM d 3).2 9).1 - 4)]) ht
    exact ret _ _ ((d1.trans Dx.set).trans (Same.dx s1)) (s1 _ _ upd_same) (.tup (SqT.of upd_same) (.cons (.str _) (.cons (.int _) .nil)))
theorem sc__law_any_curve : FnScope ["dice", "deep", "pick", "kind"] ["dice", "deep"] (defScope s__law_any_curve) := ⟨rfl, rfl, rfl, by decide +kernel, rfl, by decide +kernel, by decide +kernel⟩
def spAny (K : PySem.W.Frag) (n : Nat) : Sp := fun vs H Q _ => ∃ (a : Addr) (d : Int × Int) (j : Nat) (deep : Int), vs = [.ref a, .int deep] ∧ deep.toNat < n ∧ H a = some (.lst (dL d)) ∧ Dk j d ∧ j + cstA deep.toNat ≤ 900000 ∧ ∀ v H', Dx K a H H' → H' a = some (.lst (dL (anyM deep.toNat d).2)) → Dp K H' v (anyM deep.toNat d).1.d → Q v H'
theorem kd_at7 {i : Int} (h0 : 3 ≤ i) (h4 : i < 10) : atI [V.str "sum", V.str "times", V.str "max", V.str "min", V.str "into", V.str "max", V.str "sum"] (i - 3) = some (.str (kd7 i).s) := by
  have : i = 3 ∨ i = 4 ∨ i = 5 ∨ i = 6 ∨ i = 7 ∨ i = 8 ∨ i = 9 := by omega
  rcases this with rfl | rfl | rfl | rfl | rfl | rfl | rfl <;> rfl
theorem c__law_any_curve (F : DefAt K mg "_law_any_curve" s__law_any_curve) (c__law_roll : Cal P w K mg base CX0 2 "_law_roll" ["dice", "many"] spRoll) (c__law_leaf : Cal P w K mg base CX0 3 "_law_leaf" ["dice"] (spLeaf K leafM)) : ∀ n, Cal P w K mg base CX0 (n + 4) "_law_any_curve" ["dice", "deep"] (spAny K n) := by
  intro n
  induction n with
  | zero =>
    obtain ⟨⟨fd, F⟩, gl⟩ := F
    refine cal_of0 F gl sc__law_any_curve (fun _ _ _ _ _ _ us hl => match us, hl with | [_, _], _ => rfl) (fun vs H Q E h => by obtain ⟨_, _, _, _, rfl, _⟩ := h; rfl) (fun cdv A outer s H vs Q E hr h => ?_)
    obtain ⟨_, _, _, _, _, h, _⟩ := h
    exact absurd h (Nat.not_lt_zero _)
  | succ n c__law_any_curve =>
    obtain ⟨⟨fd, F⟩, gl⟩ := F
    refine cal_of0 F gl sc__law_any_curve (fun _ _ _ _ _ _ us hl => match us, hl with | [_, _], _ => rfl) (fun vs H Q E h => by obtain ⟨_, _, _, _, rfl, _⟩ := h; rfl) (fun cdv A outer s H vs Q E hr h => ?_)
    obtain ⟨a, d, j, deep, rfl, hdn, ha, hD, hj, ret⟩ := h
    have hcp := cstA_pos deep.toNat
    refine ⟨_, (pss_cons (ps_set (i := 2) sc__law_any_curve.nd rfl (Or.inl rfl) (pe_c c__law_roll (hr.mono (by omega)) pass0 (pa_cons (pv 0) (pa_cons pe_int pa_nil))))
      (pss_cons (ps_if (PW.pt (pw_or (pt_cmpR op_le (pv 1) pe_int (nomark _)) (pw_or1 (pt_cmpR op_eq (pv 2) pe_int (nomark _)))))
        (pss_one (ps_ret (pe_c c__law_leaf (hr.mono (by omega)) pass0 (pa_cons (pv 0) pa_nil))))
        pss_nil)
      (pss_cons (ps_if (pt_cmpR op_lt (pv 2) pe_int (nomark _))
        (pss_one (ps_ret (pe_tup (pa_cons pe_str (pa_cons (pe_c c__law_any_curve (hr.mono (by omega)) pass0 (pa_cons (pv 0) (pa_cons (pe_op op_sub (pv 1) pe_int) pa_nil))) pa_nil)))))
        pss_nil)
      (pss_cons (ps_set (i := 3) sc__law_any_curve.nd rfl (Or.inl rfl) (pe_ix ix_list (pe_lst (pa_cons pe_str (pa_cons pe_str (pa_cons pe_str (pa_cons pe_str (pa_cons pe_str (pa_cons pe_str (pa_cons pe_str pa_nil)))))))) (pe_op op_sub (pv 2) pe_int) (fun _ _ => rfl)))
      (pss_one (ps_ret (pe_tup (pa_cons (pv 3) (pa_cons (pe_c c__law_any_curve (hr.mono (by omega)) pass0 (pa_cons (pv 0) (pa_cons (pe_op op_sub (pv 1) pe_int) pa_nil))) (pa_cons (pe_c c__law_any_curve (hr.mono (by omega)) pass0 (pa_cons (pv 0) (pa_cons (pe_op op_sub (pv 1) pe_int) pa_nil))) pa_nil)))))))))), ?_⟩
    refine ⟨_, rfl, a, d, 10, j, rfl, ha, by decide, bd_sm (by decide) (by decide), hD, by omega, ?_⟩
    have d1 : Dx K a H (upd H a (.lst (dL (rollM d 10).2))) := Dx.set
    have a1 : (upd H a (.lst (dL (rollM d 10).2))) a = some (.lst (dL (rollM d 10).2)) := upd_same
    generalize upd H a (.lst (dL (rollM d 10).2)) = H1 at *
    have hD1 : Dk (j + 1) (rollM d 10).2 := hD.roll (by decide)
    have hr10 := roll_bd d (m := 10) (by decide)
    refine ⟨_, rfl, _, _, rfl, rfl, _, rfl, ?_⟩
    by_cases h0 : deep ≤ 0
    · rw [decide_eq_true h0]
      have e : deep.toNat = 0 := by omega
      rw [e] at ret hj
      refine iteT (iteT ⟨_, rfl, a, _, j + 1, rfl, a1, hD1, by have : cstA 0 = 3 := rfl; omega, fun v H' x1 x2 x3 => ret v H' (d1.trans x1) x2 x3⟩)
    rw [decide_eq_false h0]
    obtain ⟨m, hm⟩ : ∃ m : Nat, deep.toNat = m + 1 := ⟨deep.toNat - 1, by omega⟩
    rw [hm] at ret hj hdn
    have hc := cstA_succ m
    have hc1 := cstA_pos m
    have hc2 := cstA_pos (m - 1)
    refine iteF ⟨_, rfl, rfl, _, rfl, ?_⟩
    by_cases h : (rollM d 10).1 = 0
    · have e : anyM (m + 1) d = leafM (rollM d 10).2 := by rw [anyM_succ]; unfold nodeA; rw [if_pos h]
      rw [e] at ret
      have hd : decide (V.int (rollM d 10).1 = V.int 0) = true := by rw [h]; rfl
      rw [hd]
      exact iteT ⟨_, rfl, a, _, j + 1, rfl, a1, hD1, by omega, fun v H' x1 x2 x3 => ret v H' (d1.trans x1) x2 x3⟩
    rw [decide_eq_false (fun z => h (by injection z))]
    have em1 : (deep - 1).toNat = m := by omega
    have em2 : (deep - 2).toNat = m - 1 := by omega
    refine iteF ⟨_, rfl, _, _, rfl, rfl, _, rfl, ?_⟩
    by_cases h3 : (rollM d 10).1 < 3
    · rw [decide_eq_true h3]
      have e : anyM (m + 1) d = (.abs (anyM m (rollM d 10).2).1, (anyM m (rollM d 10).2).2) := by rw [anyM_succ]; unfold nodeA; rw [if_neg h, if_pos h3]
      rw [e] at ret
      refine iteT ⟨_, rfl, _, rfl, _, _, rfl, rfl, a, _, j + 1, deep - 1, rfl, by rw [em1]; omega, a1, hD1, by rw [em1]; omega, ?_⟩
      rw [em1]
      intro v1 H4 d4 a4 hv1
      refine ⟨sz2, fun t ht => ?_⟩
      have s6 := Same.new (o := .tup [.str "abs", v1]) ht
      exact ret _ _ ((d1.trans d4).trans (Same.dx s6)) (s6 _ _ a4) (.tup (SqT.of upd_same) (.cons (.str _) (.cons (Dp.ex s6 hv1) .nil)))
    rw [decide_eq_false h3]
    have e : anyM (m + 1) d = (.bin (kd7 (rollM d 10).1) (anyM m (rollM d 10).2).1 (anyM (m - 1) (anyM m (rollM d 10).2).2).1, (anyM (m - 1) (anyM m (rollM d 10).2).2).2) := by rw [anyM_succ]; unfold nodeA; rw [if_neg h, if_neg h3]
    rw [e] at ret
    refine iteF ⟨(by show 7 ≤ sizeLine; decide), fun L hL => ?_⟩
    have s2 := Same.new (o := .lst [.str "sum", .str "times", .str "max", .str "min", .str "into", .str "max", .str "sum"]) hL
    refine ⟨_, rfl, _, _, rfl, rfl, L, _, _, _, rfl, rfl, SqL.of upd_same, kd_at7 (by omega) hr10.2, ?_⟩
    have a2 := s2 _ _ a1
    generalize upd H1 L (.lst [.str "sum", .str "times", .str "max", .str "min", .str "into", .str "max", .str "sum"]) = H2 at *
    refine ⟨_, rfl, _, rfl, _, rfl, _, _, rfl, rfl, a, _, j + 1, deep - 1, rfl, by rw [em1]; omega, a2, hD1, by rw [em1]; omega, ?_⟩
    rw [em1]
    intro v1 H4 d4 a4 hv1
    refine ⟨_, rfl, _, rfl, _, _, rfl, rfl, a, _, j + 1 + cstA m, deep - 2, rfl, by rw [em2]; omega, a4, Dk.any m hD1, by rw [em2]; omega, ?_⟩
    rw [em2]
    intro v2 H5 d5 a5 hv2
    refine ⟨(by show 3 ≤ sizeLine; decide), fun t ht => ?_⟩
    have s6 := Same.new (o := .tup [.str (kd7 (rollM d 10).1).s, v1, v2]) ht
    exact ret _ _ ((((d1.trans (Same.dx s2)).trans d4).trans d5).trans (Same.dx s6)) (s6 _ _ a5) (.tup (SqT.of upd_same) (.cons (.str _) (.cons (Dp.ex s6 (Dp.tp (d5.tp a4) (noL_d _) hv1)) (.cons (Dp.ex s6 hv2) .nil))))
theorem sc__law_curve : FnScope ["dice", "deep", "found"] ["dice", "deep"] (defScope s__law_curve) := ⟨rfl, rfl, rfl, by decide +kernel, rfl, by decide +kernel, by decide +kernel⟩
def spCurve (K : PySem.W.Frag) : Sp := fun vs H Q _ => ∃ (a : Addr) (d : Int × Int) (j : Nat), vs = [.ref a, .int 4] ∧ H a = some (.lst (dL d)) ∧ Dk j d ∧ j ≤ 800000 ∧ ∀ v H', Dx K a H H' → H' a = some (.lst (dL (curveM 4 d).2)) → Dp K H' v (curveM 4 d).1.d → Q v H'
theorem c__law_curve (F : DefAt K mg "_law_curve" s__law_curve) (c_any : ∀ n, Cal P w K mg base CX0 (n + 4) "_law_any_curve" ["dice", "deep"] (spAny K n)) (c_is_curve : Cal P w K mg base CX0 19 "is_curve" ["value"] (spIsCurve K)) (c__law_leaf : Cal P w K mg base CX0 3 "_law_leaf" ["dice"] (spLeaf K leafM)) : Cal P w K mg base CX0 20 "_law_curve" ["dice", "deep"] (spCurve K) := by
  obtain ⟨⟨fd, F⟩, gl⟩ := F
  have c__law_any_curve := c_any 5
  refine cal_of0 F gl sc__law_curve (fun _ _ _ _ _ _ us hl => match us, hl with | [_, _], _ => rfl) (fun vs H Q E h => by obtain ⟨_, _, _, rfl, _⟩ := h; rfl) (fun cdv A outer s H vs Q E hr h => ?_)
  obtain ⟨a, d, j, rfl, ha, hD, hj, ret⟩ := h
  refine ⟨_, (pss_cons (ps_set (i := 2) sc__law_curve.nd rfl (Or.inl rfl) (pe_c c__law_any_curve (hr.mono (by omega)) pass0 (pa_cons (pv 0) (pa_cons (pv 1) pa_nil))))
      (pss_one (ps_ret (pe_ifExp (pt_val (pe_c c_is_curve (hr.mono (by omega)) pass0 (pa_cons (pv 2) pa_nil))) (pv 2) (pe_tup (pa_cons pe_str (pa_cons (pe_c c__law_leaf (hr.mono (by omega)) pass0 (pa_cons (pv 0) pa_nil)) (pa_cons (pe_tup (pa_cons pe_str (pa_cons (pe_c c__law_leaf (hr.mono (by omega)) pass0 (pa_cons (pv 0) pa_nil)) pa_nil))) pa_nil)))))))), ?_⟩
  refine ⟨_, rfl, _, rfl, a, d, j, 4, rfl, by decide, ha, hD, by have : cstA (4 : Int).toNat = 31 := rfl; omega, fun v H1 d1 a1 hv => ?_⟩
  have hD1 : Dk (j + 31) (anyM 4 d).2 := Dk.any 4 hD
  have h9 := any_in9 4 d
  replace a1 : H1 a = some (.lst (dL (anyM 4 d).2)) := a1
  replace hv : Dp K H1 v (anyM 4 d).1.d := hv
  refine ⟨_, rfl, v, _, rfl, hv, shaped_d (by omega), fun H2 e2 => ⟨_, rfl, ?_⟩⟩
  rw [isCurveM_d h9.1]
  unfold curveM at ret
  have d2 := d1.trans (Same.dx e2)
  have a2 := e2 _ _ a1
  cases hok : (anyM 4 d).1.ok with
  | true =>
    rw [if_pos hok] at ret
    exact iteT ⟨v, rfl, ret _ _ d2 a2 (Dp.ex e2 hv)⟩
  | false =>
    rw [if_neg (by rw [hok]; decide)] at ret
    refine iteF ⟨_, rfl, a, _, j + 31, rfl, a2, hD1, by omega, fun v1 H3 d3 a3 hv1 => ?_⟩
    refine ⟨_, rfl, a, _, j + 33, rfl, a3, hD1.leaf, by omega, fun v2 H4 d4 a4 hv2 => ?_⟩
    refine ⟨sz2, fun t1 ht1 => ⟨(by show 3 ≤ sizeLine; decide), fun t2 ht2 => ?_⟩⟩
    have s5 := Same.new (o := .tup [.str "abs", v2]) ht1
    have h5 : SqT K (upd H4 t1 (.tup [.str "abs", v2])) t1 [.str "abs", v2] := SqT.of upd_same
    generalize upd H4 t1 (.tup [.str "abs", v2]) = H5 at *
    have s6 := Same.new (o := .tup [.str "max", v1, .ref t1]) ht2
    exact ret _ _ ((((d2.trans d3).trans d4).trans (Same.dx s5)).trans (Same.dx s6)) (s6 _ _ (s5 _ _ a4)) (.tup (SqT.of upd_same) (.cons (.str _) (.cons (Dp.ex (s5.trans s6) (Dp.tp (d4.tp a3) (noL_d _) hv1)) (.cons (.tup (ex_t s6 h5) (.cons (.str _) (.cons (Dp.ex (s5.trans s6) hv2) .nil))) .nil))))
end
end Bc
set_option Elab.async false
set_option linter.all false
set_option maxRecDepth 100000
set_option maxHeartbeats 4000000
namespace Bc
open PySem PySem.Spec PyProof.Rows L2
/-! ### steps of laws -/
theorem gset {i : Nat} {v : V} {σ : L2.St} {H : Hp} {k : L2.St → Hp → Prop} (h : k (σ.set i (some v)) H) : gName i v σ H k := h
theorem nx_seq {t u : TS} {D : Ends} {σ : L2.St} {H : Hp} {rt bk ct} (h : tSeq t u D σ H) : ({ nx := tSeq t u D, rt := rt, bk := bk, ct := ct } : Ends).nx σ H := h
theorem fin_int {a : Int} {k : Nat} {P : Int → Prop} (h : ∀ m : Fin k, P ((m.val : Int) + a)) {n : Int} (h1 : a ≤ n) (h2 : n < a + k) : P n := by
  have := h ⟨(n - a).toNat, by omega⟩
  have e : (((n - a).toNat : Nat) : Int) + a = n := by omega
  rw [← e]
  exact this
theorem fn_of0 {P : Program} {w : World} {K : PySem.W.Frag} {mg : Str → Option Value} {base : Heap} {k : Nat} {x : Str} {N ps : List Str} {sp : Sp} {st : Stmt} {fd : FuncData}
    (F : FunD K x x (defArgs st) (defBody st) (defScope st) [] [] (He.ga K x) fd) (S : FnScope N ps (defScope st)) (len : ∀ vs H Q E, sp vs H Q E → vs.length = ps.length)
    (hbody : ∀ (cdv : Value) (A : Around) (outer : List Env) (s : Shared) (H : Hp) (vs : List V) (Q : VK) (E : XK), Room k (A.deeper (envOfC x (defScope st) s.heap.objs.size (He.ga K x) cdv)) → sp vs H Q E →
      ∃ t, PSs (cxOf CX0 P w K mg base N x (defScope st) (He.ga K x) cdv A outer s H E).nox (defBody st) t ∧ t { nx := fun _ H' => Q .non H', rt := Q } (start N vs) H) :
    FnOk P w K mg base CX0 (k + 1) (He.ga K x) fd ps sp :=
  F.ok S len fun cdv A outer s H vs Q E hr h => by
    obtain ⟨t, h1, h2⟩ := hbody cdv A outer s H vs Q E hr h
    exact ⟨t, h1.nox, h2⟩
/-- the law's promise -/
def spLaw (K : PySem.W.Frag) : Sp := fun vs H Q _ => ∃ (a : Addr) (ns : List Int), vs = [.ref a] ∧ SqL K H a (ns.map V.int) ∧ ScOk ns ∧ ∀ H', Q (.bl true) H'
theorem noL_ints : ∀ r : List Int, noLs (r.map PyData.int) = true
  | [] => rfl
  | _ :: r => noL_ints r
theorem noL_row (r : List Int) : noL (dRow r) = true := noL_ints r
theorem cm9 {a b : Int} (h1 : -100 ≤ a) (h2 : a ≤ 100) (h3 : -100 ≤ b) (h4 : b ≤ 100) : CM a b := Bd.cm (n := 7) (m := 7) (by unfold Bd; omega) (by unfold Bd; omega) (by decide)
/-- the loop of a law over its dice -/
structure DiceAt (H : Hp) (ns : List Int) (R : Addr) (as : List Addr) (i : Nat) : Prop where
  nd : as.Nodup
  rn : ∀ b ∈ as, b ≠ R
  r : H R = some (.lst (as.map V.ref))
  d : ∀ (j : Nat) b, i ≤ j → as[j]? = some b → H b = some (.lst (dL (cellM ns j, 0)))
theorem DiceAt.next {K : PySem.W.Frag} {H H' : Hp} {ns : List Int} {R : Addr} {as : List Addr} {i : Nat} {b : Addr} (h : DiceAt H ns R as i) (hb : as[i]? = some b) (e : Dx K b H H') : DiceAt H' ns R as (i + 1) := by
  refine ⟨h.nd, h.rn, e.lst (fun z => h.rn b (List.mem_of_getElem? hb) z.symm) h.r, fun j c hj hc => e.lst (fun z => ?_) (h.d j c (by omega) hc)⟩
  subst z
  obtain ⟨h1, e1⟩ := List.getElem?_eq_some_iff.mp hb
  obtain ⟨h2, e2⟩ := List.getElem?_eq_some_iff.mp hc
  have := (List.getElem_inj h.nd (h₀ := h1) (h₁ := h2)).mp (e1.trans e2.symm)
  omega
theorem DiceAt.of {H H' : Hp} {ns : List Int} {R : Addr} {as : List Addr} (hR1 : H' R = some (.lst (as.map V.ref))) (hnd : as.Nodup) (hal : ∀ (j : Nat) b, as[j]? = some b → b ≠ R ∧ H b = none ∧ H' b = some (.lst (dL (cellM ns j, 0)))) : DiceAt H' ns R as 0 :=
  ⟨hnd, fun b hb => by obtain ⟨j, hj⟩ := List.getElem?_of_mem hb; exact (hal j b hj).1, hR1, fun j b _ hb => (hal j b hb).2.2⟩
theorem DiceAt.kp {K : PySem.W.Frag} {H H' : Hp} {ns : List Int} {R : Addr} {as : List Addr} {i : Nat} (h : DiceAt H ns R as i) (e : Kp K H H') : DiceAt H' ns R as i := ⟨h.nd, h.rn, e.lst h.r, fun j c hj hc => e.lst (h.d j c hj hc)⟩
/-! ### values and tests -/
def MkV (K : PySem.W.Frag) (σ : L2.St) (H : Hp) (te : TE) (v : V) : Prop := ∀ H1, Tp K H H1 → ∀ Q : VK, (∀ H', Kp K H1 H' → Q v H') → te σ H1 Q
def Tst (K : PySem.W.Frag) (σ : L2.St) (H : Hp) (tt : TT) (b : Bool) : Prop := ∀ H1, Tp K H H1 → ∀ Q : Bool → Hp → Prop, (∀ H', Kp K H1 H' → Q b H') → tt σ H1 Q
section
variable {K : PySem.W.Frag} {σ : L2.St} {H : Hp}
theorem mv_int {n : Int} : MkV K σ H (tC (.int n)) (.int n) := fun H1 _ Q h => h _ Kp.refl
theorem mv_bl {b : Bool} : MkV K σ H (tC (.bl b)) (.bl b) := fun H1 _ Q h => h _ Kp.refl
theorem mv_non : MkV K σ H (tC .non) .non := fun H1 _ Q h => h _ Kp.refl
theorem mv_var {i : Nat} {v : V} (hs : σ[i]? = some (some v)) : MkV K σ H (tVar i) v := fun H1 _ Q h => ⟨v, hs, h _ Kp.refl⟩
theorem mv_neg {te : TE} {n : Int} (m : MkV K σ H te (.int n)) : MkV K σ H (tUn (rU fun i => .int (-i)) te) (.int (-n)) := fun H1 e1 Q h => m H1 e1 _ fun H2 e2 => ⟨n, rfl, h _ e2⟩
theorem tst_ne {ta tb : TE} {d : PyData} (h1 : Mks K σ H ta d) (h2 : Mks K σ H tb d) (s1 : SeqAt.shaped d = true) : Tst K σ H (tTest (tOp (rNeD K) ta tb)) false := fun H1 e1 Q h => h1 H1 e1 _ fun v H2 e2 hv => h2 H2 (e1.trans e2.tp) _ fun u H3 e3 hu => by
  refine ⟨d, d, Dp.kp e3 hv, hu, s1, s1, _, rfl, ?_⟩
  rw [SeqAt.eqv_refl _ (SeqAt.canLay_of_shaped s1)]
  exact h _ (e2.trans e3)
theorem tst_neB {ta tb : TE} {d e : PyData} {b : Bool} (h1 : Mks K σ H ta d) (h2 : Mks K σ H tb e) (s1 : SeqAt.shaped d = true) (s2 : SeqAt.shaped e = true) (hb : PyData.eqv d e = !b) : Tst K σ H (tTest (tOp (rNeD K) ta tb)) b := fun H1 e1 Q h => h1 H1 e1 _ fun v H2 e2 hv => h2 H2 (e1.trans e2.tp) _ fun u H3 e3 hu => by
  refine ⟨d, e, Dp.kp e3 hv, hu, s1, s2, _, rfl, ?_⟩
  rw [hb, Bool.not_not]
  exact h _ (e2.trans e3)
theorem tst_neV {ta tb : TE} {v : V} (h1 : MkV K σ H ta v) (h2 : MkV K σ H tb v) (hs : scal v v = true) : Tst K σ H (tTest (tOp rNe ta tb)) false := fun H1 e1 Q h => h1 H1 e1 _ fun H2 e2 => h2 H2 (e1.trans e2.tp) _ fun H3 e3 => by
  refine ⟨hs, _, rfl, ?_⟩
  rw [decide_eq_true rfl]
  exact h _ (e2.trans e3)
theorem tst_notN {te : TE} (h1 : MkV K σ H te .non) : Tst K σ H (tTest (tOp (fun x y H Q => y = .non ∧ Q (.bl (!decide (x = .non))) H) te (tC .non))) false := fun H1 e1 Q h => h1 H1 e1 _ fun H2 e2 => ⟨rfl, _, rfl, h _ e2⟩
theorem tst_notT {te tb : TE} {b : Bool} (h1 : MkV K σ H te (.bl b)) (h2 : MkV K σ H tb (.bl b)) : Tst K σ H (tTest (tOp rNotB te tb)) false := fun H1 e1 Q h => h1 H1 e1 _ fun H2 e2 => h2 H2 (e1.trans e2.tp) _ fun H3 e3 => by
  refine ⟨b, b, rfl, rfl, _, rfl, ?_⟩
  rw [decide_eq_true rfl]
  exact h _ (e2.trans e3)
theorem tst_or {t u : TT} {b : Bool} (h1 : Tst K σ H t false) (h2 : Tst K σ H u b) : Tst K σ H (tOr t u) b := fun H1 e1 Q h => h1 H1 e1 _ fun H2 e2 => iteF (h2 H2 (e1.trans e2.tp) _ fun H3 e3 => h _ (e2.trans e3))
theorem tst_and {t u : TT} {b : Bool} (h1 : Tst K σ H t true) (h2 : Tst K σ H u b) : Tst K σ H (tAnd t u) b := fun H1 e1 Q h => h1 H1 e1 _ fun H2 e2 => iteT (h2 H2 (e1.trans e2.tp) _ fun H3 e3 => h _ (e2.trans e3))
theorem tst_andF {t u : TT} (h1 : Tst K σ H t false) : Tst K σ H (tAnd t u) false := fun H1 e1 Q h => h1 H1 e1 _ fun H2 e2 => iteF (h _ e2)
theorem tst_not {t : TT} {b : Bool} (h1 : Tst K σ H t b) : Tst K σ H (tNot t) (!b) := fun H1 e1 Q h => h1 H1 e1 _ fun H2 e2 => h _ e2
theorem tst_val {te : TE} {b : Bool} (h1 : MkV K σ H te (.bl b)) : Tst K σ H (tB te) b := fun H1 e1 Q h => h1 H1 e1 _ fun H2 e2 => ⟨b, rfl, h _ e2⟩
theorem step_if {D : Ends} {tt : TT} {t rest : TS} (h1 : Tst K σ H tt false) (hk : ∀ H', Kp K H H' → rest D σ H') : tSeq (tIfS tt t tNext) rest D σ H := h1 H Tp.refl _ fun H' e => iteF (hk _ e)
theorem end_if {D : Ends} {tt : TT} {t : TS} (h1 : Tst K σ H tt false) (hk : ∀ H', Kp K H H' → D.nx σ H') : tIfS tt t tNext D σ H := h1 H Tp.refl _ fun H' e => iteF (hk _ e)
theorem step_ifT {D : Ends} {tt : TT} {t rest : TS} (h1 : Tst K σ H tt true) (hk : ∀ H', Kp K H H' → t { D with nx := rest D } σ H') : tSeq (tIfS tt t tNext) rest D σ H := h1 H Tp.refl _ fun H' e => iteT (hk _ e)
/-! calls of the interface -/
def ok9 (c : Cv) : Bool := c.in9 && c.ok
theorem ok9_ok {c : Cv} (h : ok9 c = true) : c.in9 = true ∧ c.ok = true := Bool.and_eq_true_iff.mp h
theorem pub1_go {G : Cv → Hp → VK → Prop} {te : TE} {c : Cv} {E : XK} {H1 : Hp} {Q : VK} (m : Mks K σ H te c.d) (h9 : ok9 c = true) (e1 : Tp K H H1) (h : ∀ H', Kp K H1 H' → G c H' Q) : tCall (pub1 K G) [] E (tCons te tNil) σ H1 Q := m H1 e1 _ fun v H2 e2 hv => by
  obtain ⟨h1, h2⟩ := ok9_ok h9
  refine ⟨v, c.d, rfl, hv, shaped_d (by have := ok_depth h2; omega), fun hf => ?_, fun c' hc _ _ H3 e3 => ?_⟩
  · rw [isCurveM_d h1, h2] at hf; cases hf
  · rw [← Cv.d_inj hc]
    exact h _ (e2.trans (Same.kp e3))
theorem pub2_go {G : Cv → Cv → Hp → VK → Prop} {te tf : TE} {c d : Cv} {E : XK} {H1 : Hp} {Q : VK} (m : Mks K σ H te c.d) (n : Mks K σ H tf d.d) (h9 : ok9 c = true) (h9' : ok9 d = true) (e1 : Tp K H H1) (h : ∀ H', Kp K H1 H' → G c d H' Q) : tCall (pub2 K G) [] E (tCons te (tCons tf tNil)) σ H1 Q := m H1 e1 _ fun v H2 e2 hv => n H2 (e1.trans e2.tp) _ fun u H3 e3 hu => by
  obtain ⟨h1, h2⟩ := ok9_ok h9
  obtain ⟨k1, k2⟩ := ok9_ok h9'
  refine ⟨v, u, c.d, d.d, rfl, Dp.kp e3 hv, shaped_d (by have := ok_depth h2; omega), fun hf => ?_, fun _ => ⟨hu, shaped_d (by have := ok_depth k2; omega), fun hf => ?_, fun c' d' hc hd _ _ _ _ H4 e4 => ?_⟩⟩
  · rw [isCurveM_d h1, h2] at hf; cases hf
  · rw [isCurveM_d k1, k2] at hf; cases hf
  · rw [← Cv.d_inj hc, ← Cv.d_inj hd]
    exact h _ ((e2.trans e3).trans (Same.kp e4))
end
/-! tests that read lists -/
def MkK (K : PySem.W.Frag) (σ : L2.St) (H : Hp) (te : TE) (d : PyData) : Prop := ∀ H1, Kp K H H1 → ∀ Q : VK, (∀ v H', Kp K H1 H' → Dp K H' v d → Q v H') → te σ H1 Q
def MvK (K : PySem.W.Frag) (σ : L2.St) (H : Hp) (te : TE) (v : V) : Prop := ∀ H1, Kp K H H1 → ∀ Q : VK, (∀ H', Kp K H1 H' → Q v H') → te σ H1 Q
def TsK (K : PySem.W.Frag) (σ : L2.St) (H : Hp) (tt : TT) (b : Bool) : Prop := ∀ H1, Kp K H H1 → ∀ Q : Bool → Hp → Prop, (∀ H', Kp K H1 H' → Q b H') → tt σ H1 Q
section
variable {K : PySem.W.Frag} {σ : L2.St} {H : Hp}
theorem Mks.k {te : TE} {d : PyData} (m : Mks K σ H te d) : MkK K σ H te d := fun H1 e => m H1 e.tp
theorem MkV.k {te : TE} {v : V} (m : MkV K σ H te v) : MvK K σ H te v := fun H1 e => m H1 e.tp
theorem Tst.k {tt : TT} {b : Bool} (m : Tst K σ H tt b) : TsK K σ H tt b := fun H1 e => m H1 e.tp
theorem tsk_ne {ta tb : TE} {d : PyData} (h1 : MkK K σ H ta d) (h2 : MkK K σ H tb d) (s1 : SeqAt.shaped d = true) : TsK K σ H (tTest (tOp (rNeD K) ta tb)) false := fun H1 e1 Q h => h1 H1 e1 _ fun v H2 e2 hv => h2 H2 (e1.trans e2) _ fun u H3 e3 hu => by
  refine ⟨d, d, Dp.kp e3 hv, hu, s1, s1, _, rfl, ?_⟩
  rw [SeqAt.eqv_refl _ (SeqAt.canLay_of_shaped s1)]
  exact h _ (e2.trans e3)
theorem tsk_neV {ta tb : TE} {v : V} (h1 : MvK K σ H ta v) (h2 : MvK K σ H tb v) (hs : scal v v = true) : TsK K σ H (tTest (tOp rNe ta tb)) false := fun H1 e1 Q h => h1 H1 e1 _ fun H2 e2 => h2 H2 (e1.trans e2) _ fun H3 e3 => by
  refine ⟨hs, _, rfl, ?_⟩
  rw [decide_eq_true rfl]
  exact h _ (e2.trans e3)
theorem tsk_or {t u : TT} {b : Bool} (h1 : TsK K σ H t false) (h2 : TsK K σ H u b) : TsK K σ H (tOr t u) b := fun H1 e1 Q h => h1 H1 e1 _ fun H2 e2 => iteF (h2 H2 (e1.trans e2) _ fun H3 e3 => h _ (e2.trans e3))
theorem step_ifK {D : Ends} {tt : TT} {t rest : TS} (h1 : TsK K σ H tt false) (hk : ∀ H', Kp K H H' → rest D σ H') : tSeq (tIfS tt t tNext) rest D σ H := h1 H Kp.refl _ fun H' e => iteF (hk _ e)
end
end Bc
set_option Elab.async false
set_option linter.all false
set_option maxRecDepth 100000
set_option maxHeartbeats 4000000
set_option pp.maxSteps 600
namespace Bc
open PySem PySem.Spec PyProof.Rows L2 LamX
/-! ### laws that hand lambdas over: all but roots and tables of code objects stays -/
def Tz (K : PySem.W.Frag) (H H' : Hp) : Prop := ∀ a o, H a = some o → (∀ dx fs, o ≠ .ins (He.ga K "Root") dx fs) → (∀ ps, o ≠ .tbl ps) → H' a = some o
/-- and what lies at D -/
def Dt (K : PySem.W.Frag) (D : Addr) (H H' : Hp) : Prop := ∀ a o, H a = some o → a ≠ D → (∀ dx fs, o ≠ .ins (He.ga K "Root") dx fs) → (∀ ps, o ≠ .tbl ps) → H' a = some o
section
variable {K : PySem.W.Frag} {H H' H'' : Hp} {D : Addr}
theorem Tz.refl : Tz K H H := fun _ _ e _ _ => e
theorem Tz.trans (h : Tz K H H') (k : Tz K H' H'') : Tz K H H'' := fun a o e n t => k a o (h a o e n t) n t
theorem Kp.tz (h : Kp K H H') : Tz K H H' := fun a o e n _ => h a o e n
theorem Same.tz (h : Same H H') : Tz K H H' := fun a o e _ _ => h a o e
theorem Tz.ext (h : ExtN H H') : Tz K H H' := fun a o e _ t => h a o e t
theorem Tz.t {a : Addr} {xs : List V} (e : Tz K H H') (h : SqT K H a xs) : SqT K H' a xs := by
  rcases h with (h | ⟨o, h⟩) | h
  · exact .inl (.inl (e a _ h (fun _ _ z => by cases z) (fun _ z => by cases z)))
  · exact .inl (.inr ⟨o, e a _ h (fun _ _ z => by cases z) (fun _ z => by cases z)⟩)
  · exact .inr h
theorem Tz.l {a : Addr} {xs : List V} (e : Tz K H H') (h : SqL K H a xs) : SqL K H' a xs := by
  rcases h with (h | ⟨o, h⟩) | h
  · exact .inl (.inl (e a _ h (fun _ _ z => by cases z) (fun _ z => by cases z)))
  · exact .inl (.inr ⟨o, e a _ h (fun _ _ z => by cases z) (fun _ z => by cases z)⟩)
  · exact .inr h
theorem Tz.lst {a : Addr} {xs : List V} (e : Tz K H H') (h : H a = some (.lst xs)) : H' a = some (.lst xs) := e a _ h (fun _ _ z => by cases z) (fun _ z => by cases z)
mutual
theorem Dp.tz (e : Tz K H H') : ∀ {v : V} {d : PyData}, Dp K H v d → Dp K H' v d
  | _, _, .non => .non
  | _, _, .bl b => .bl b
  | _, _, .int i => .int i
  | _, _, .str x => .str x
  | _, _, .lst h a => .lst (e.l h) (DpAll.tz e a)
  | _, _, .tup h a => .tup (e.t h) (DpAll.tz e a)
theorem DpAll.tz (e : Tz K H H') : ∀ {vs : List V} {ds : List PyData}, DpAll K H vs ds → DpAll K H' vs ds
  | _, _, .nil => .nil
  | _, _, .cons h a => .cons (Dp.tz e h) (DpAll.tz e a)
end
theorem Tz.dt (h : Tz K H H') : Dt K D H H' := fun a o e _ n t => h a o e n t
theorem Dx.dt (h : Dx K D H H') : Dt K D H H' := fun a o e d n _ => h a o e d n
theorem Dt.refl : Dt K D H H := fun _ _ e _ _ _ => e
theorem Dt.trans (h : Dt K D H H') (k : Dt K D H' H'') : Dt K D H H'' := fun a o e d n t => k a o (h a o e d n t) d n t
theorem Dt.lst (h : Dt K D H H') {a : Addr} {l : List V} (hn : a ≠ D) (e : H a = some (.lst l)) : H' a = some (.lst l) := h a _ e hn (fun _ _ z => by cases z) (fun _ z => by cases z)
/-! tables -/
theorem TabS.keep {q : Str} {Pt : Addr} (t : TabS H Pt q) (e : ∀ a o, H a = some o → (∀ dx fs, o ≠ .ins (He.ga K "Root") dx fs) → (∀ l, o ≠ .lst l) → H' a = some o) : TabS H' Pt q := by
  obtain ⟨ps, h1, h2, h3⟩ := t
  refine ⟨ps, e _ _ h1 (fun _ _ z => by cases z) (fun _ z => by cases z), h2, fun pos cv hc => ?_⟩
  obtain ⟨c, e1, e2⟩ := h3 pos cv hc
  exact ⟨c, e1, e _ _ e2 (fun _ _ z => by unfold CodeO at z; cases z) (fun _ z => by unfold CodeO at z; cases z)⟩
theorem Tabs.kp {T : List (Addr × Str)} (t : Tabs T H) (e : Kp K H H') : Tabs T H' := fun p hp => TabS.keep (t p hp) fun a o h n _ => e a o h n
theorem Tabs.dx {T : List (Addr × Str)} {l : List V} (t : Tabs T H) (e : Dx K D H H') (hD : H D = some (.lst l)) : Tabs T H' := fun p hp => TabS.keep (t p hp) fun a o h n k => e a o h (fun z => by
  rw [z, hD] at h
  exact k l (Option.some.inj h).symm) n
end
theorem DiceAt.nextT {K : PySem.W.Frag} {H H' : Hp} {ns : List Int} {R : Addr} {as : List Addr} {i : Nat} {b : Addr} (h : DiceAt H ns R as i) (hb : as[i]? = some b) (e : Dt K b H H') : DiceAt H' ns R as (i + 1) := by
  refine ⟨h.nd, h.rn, e.lst (fun z => h.rn b (List.mem_of_getElem? hb) z.symm) h.r, fun j c hj hc => e.lst (fun z => ?_) (h.d j c (by omega) hc)⟩
  subst z
  obtain ⟨h1, e1⟩ := List.getElem?_eq_some_iff.mp hb
  obtain ⟨h2, e2⟩ := List.getElem?_eq_some_iff.mp hc
  have := (List.getElem_inj h.nd (h₀ := h1) (h₁ := h2)).mp (e1.trans e2.symm)
  omega
/-! the law's promise -/
def spLawT (K : PySem.W.Frag) : Sp := fun vs H Q _ => ∃ (a : Addr) (ns : List Int), vs = [.ref a] ∧ SqL K H a (ns.map V.int) ∧ ScOk ns ∧ H (He.cT K ("law", none)).2 = some (.tbl #[]) ∧ ∀ H', Q (.bl true) H'
abbrev lawQ : Str := (("law" : Str) ++ ".<locals>.") ++ "<lambda>"
theorem fn_ofT {P : Program} {w : World} {K : PySem.W.Frag} {mg : Str → Option Value} {base : Heap} {k : Nat} {N ps : List Str} {sp : Sp} {st : Stmt} {fd : FuncData}
    (F : FunD K "law" "law" (defArgs st) (defBody st) (defScope st) [] [] (He.ga K "law") fd) (S : FnScope N ps (defScope st)) (len : ∀ vs H Q E, sp vs H Q E → vs.length = ps.length)
    (hbody : ∀ (c : Addr) (A : Around) (outer : List Env) (s : Shared) (H : Hp) (vs : List V) (Q : VK) (E : XK), c = (He.cT K ("law", none)).1 → Room k (A.deeper (envOfC "law" (defScope st) s.heap.objs.size (He.ga K "law") (.ref c))) → sp vs H Q E →
      ∃ t, PSs (cxOf CX0 P w K mg base N "law" (defScope st) (He.ga K "law") (.ref c) A outer s H E).nox (defBody st) t ∧ t { nx := fun _ H' => Q .non H', rt := Q } (start N vs) H) :
    FnOk P w K mg base CX0 (k + 1) (He.ga K "law") fd ps sp := by
  obtain ⟨oc, od, dV, kV, doc, pm, an, cdv, ct, osl, rfl, lk, hcd, _, _⟩ := F.ex
  obtain ⟨c, rfl⟩ := He.codeIn_ref hcd
  have hc : He.codeOf K ("law", none) = c := He.codeOf_eq lk rfl
  refine fn_of lk hcd S len fun A outer s H vs Q E hr hsp => ?_
  obtain ⟨t, h1, h2⟩ := hbody c A outer s H vs Q E hc.symm hr hsp
  exact ⟨t, h1.nox, h2⟩
/-! if _law_told(lambda: ..) != ("error", x): return False -/
section
variable {K : PySem.W.Frag} {σ : L2.St} {H : Hp} {T : List (Addr × Str)}
theorem shaped_err6 : ∀ x ∈ kinds6, SeqAt.shaped (dErr x) = true := by decide +kernel
theorem tell_ne {x : Str} {t : XK → TE} (hT : Tabs T H) (hx : x ∈ kinds6) (ht : ∀ H1, ExtN H H1 → Tabs T H1 → ∀ (E : XK) (Q : VK), (∀ H2, Same H1 H2 → E (.ref (He.ga K x)) none H2) → t E σ H1 Q) {Q : Bool → Hp → Prop} (hk : ∀ H', Tz K H H' → Tabs T H' → Q false H') :
    tTest (tOp (rNeD K) (tLam T (TTold K) t) (tTup (tCons (tC (.str "error")) (tCons (tC (.str x)) tNil)))) σ H Q := by
  refine ⟨hT, fun H1 eN T1 => ht H1 eN T1 _ _ fun H2 e2 => ⟨x, hx, rfl, rfl, fun v H3 e3 hv => ⟨sz2, fun p hp => ?_⟩⟩⟩
  have e4 := Same.new (o := .tup [.str "error", .str x]) hp
  have s1 := shaped_err6 x hx
  refine ⟨dErr x, dErr x, Dp.ex e4 hv, .tup (SqT.of upd_same) (.cons (.str _) (.cons (.str _) .nil)), s1, s1, _, rfl, ?_⟩
  rw [SeqAt.eqv_refl _ (SeqAt.canLay_of_shaped s1)]
  have e5 := (e2.trans e3).trans e4
  exact hk _ ((Tz.ext eN).trans (Same.tz e5)) (T1.ext fun a o h => e5 a o h)
/-! lists of data -/
def MkAK (K : PySem.W.Frag) (σ : L2.St) (H : Hp) (ta : TA) (ds : List PyData) : Prop := ∀ H1, Kp K H H1 → ∀ Q : List V → Hp → Prop, (∀ vs H', Kp K H1 H' → DpAll K H' vs ds → Q vs H') → ta σ H1 Q
theorem mkk_nil : MkAK K σ H tNil [] := fun H1 _ Q h => h _ _ Kp.refl .nil
theorem mkk_cons {te : TE} {ta : TA} {d : PyData} {ds : List PyData} (m : MkK K σ H te d) (ms : MkAK K σ H ta ds) : MkAK K σ H (tCons te ta) (d :: ds) := fun H1 e1 Q h => m H1 e1 _ fun v H2 e2 hv => ms H2 (e1.trans e2) _ fun vs H3 e3 hvs => h _ _ (e2.trans e3) (.cons (Dp.kp e3 hv) hvs)
theorem mkk_con {te : TE} {ta : TA} {d : PyData} {ds : List PyData} (m : Mks K σ H te d) (ms : MkAK K σ H ta ds) : MkAK K σ H (tCons te ta) (d :: ds) := mkk_cons m.k ms
theorem mkk_lst {ta : TA} {ds : List PyData} (m : MkAK K σ H ta ds) (hl : Nat.ble ds.length 100 = true := by rfl) : MkK K σ H (tLst ta) (.list ds) := fun H1 e1 Q h => m H1 e1 _ fun vs H2 e2 hvs => ⟨by rw [DpAll.length hvs]; exact Nat.le_trans (Nat.le_of_ble_eq_true hl) (by decide), fun p hp => h _ _ (e2.trans (Kp.new hp)) (.lst (SqL.of upd_same) (DpAll.ex (Same.new hp) hvs))⟩
theorem mkk_tup {ta : TA} {ds : List PyData} (m : MkAK K σ H ta ds) (hl : Nat.ble ds.length 100 = true := by rfl) : MkK K σ H (tTup ta) (.tuple ds) := fun H1 e1 Q h => m H1 e1 _ fun vs H2 e2 hvs => ⟨by rw [DpAll.length hvs]; exact Nat.le_trans (Nat.le_of_ble_eq_true hl) (by decide), fun p hp => h _ _ (e2.trans (Kp.new hp)) (.tup (SqT.of upd_same) (DpAll.ex (Same.new hp) hvs))⟩
theorem mkk_var {i : Nat} {v : V} {d : PyData} (hs : σ[i]? = some (some v)) (hd : Dp K H v d) : MkK K σ H (tVar i) d := fun H1 e1 Q h => ⟨v, hs, h _ _ Kp.refl (Dp.kp e1 hd)⟩
/-- a list of data as it stands -/
def LsAt (K : PySem.W.Frag) (H : Hp) (L : Addr) (ds : List PyData) : Prop := ∃ vs, H L = some (.lst vs) ∧ DpAll K H vs ds
theorem LsAt.tz {H' : Hp} {L : Addr} {ds : List PyData} (h : LsAt K H L ds) (e : Tz K H H') : LsAt K H' L ds := let ⟨vs, h1, h2⟩ := h; ⟨vs, e.lst h1, DpAll.tz e h2⟩
theorem LsAt.kp {H' : Hp} {L : Addr} {ds : List PyData} (h : LsAt K H L ds) (e : Kp K H H') : LsAt K H' L ds := h.tz e.tz
theorem step_lst {D : Ends} {ta : TA} {ds : List PyData} {rest : TS} {i : Nat} (m : MkAK K σ H ta ds) (hk : ∀ L H', Kp K H H' → LsAt K H' L ds → rest D (σ.set i (some (.ref L))) H') (hl : Nat.ble ds.length 100 = true := by rfl) : tSeq (tAsg (tLst ta) (gName i)) rest D σ H := m H Kp.refl _ fun vs H2 e2 hvs =>
  ⟨by rw [DpAll.length hvs]; exact Nat.le_trans (Nat.le_of_ble_eq_true hl) (by decide), fun p hp => hk _ _ (e2.trans (Kp.new hp)) ⟨vs, upd_same, DpAll.ex (Same.new hp) hvs⟩⟩
theorem DpAll.app {H : Hp} : ∀ {vs us : List V} {ds es : List PyData}, DpAll K H vs ds → DpAll K H us es → DpAll K H (vs ++ us) (ds ++ es)
  | _, _, _, _, .nil, h => h
  | _, _, _, _, .cons h a, k => .cons h (DpAll.app a k)
theorem step_cat {D : Ends} {ta : TA} {ds es : List PyData} {rest : TS} {i : Nat} {L : Addr} (hs : σ[i]? = some (some (.ref L))) (hL : LsAt K H L ds) (m : MkAK K σ H ta es) (hk : ∀ L' H', Kp K H H' → LsAt K H' L' (ds ++ es) → rest D (σ.set i (some (.ref L'))) H') (hl : Nat.ble (ds.length + es.length) 100 = true := by rfl) (hl2 : Nat.ble es.length 100 = true := by rfl) : tSeq (tAsg (tOp rCat (tVar i) (tLst ta)) (gName i)) rest D σ H := by
  refine ⟨_, hs, m H Kp.refl _ fun us H2 e2 hus => ⟨by rw [DpAll.length hus]; exact Nat.le_trans (Nat.le_of_ble_eq_true hl2) (by decide), fun p hp => ?_⟩⟩
  have e3 := e2.trans (Kp.new (K := K) (o := .lst us) hp)
  obtain ⟨vs, h1, h2⟩ := hL.kp e3
  have hus3 := DpAll.ex (Same.new (o := .lst us) hp) hus
  refine ⟨L, p, vs, us, rfl, rfl, h1, upd_same, ?_, fun q hq => hk _ _ (e3.trans (Kp.new hq)) ⟨vs ++ us, upd_same, DpAll.ex (Same.new hq) (DpAll.app h2 hus3)⟩⟩
  rw [DpAll.length h2, DpAll.length hus]
  exact Nat.le_trans (Nat.le_of_ble_eq_true hl) (by decide)
end
end Bc
set_option Elab.async false
set_option linter.all false
set_option maxRecDepth 100000
set_option maxHeartbeats 4000000
/-! enumerate of a text -/
namespace Bc
open PySem PySem.Spec PyProof.Rows L2
/-- the text x, each sign in a new pair -/
def IteS (x : Str) : It :=
  ⟨fun i _ => i < x.cps.size, fun i H v H' => ∃ T c, v = .ref T ∧ H T = none ∧ H' = upd H T (.tup [.int (i : Nat), .str ⟨#[c]⟩]) ∧ x.cps[i]? = some c, fun i _ => x.cps.size ≤ i⟩
theorem turn_enumS {P : Program} {w : World} {K : PySem.W.Frag} {elts : List Expr} {kk : Nat} {tpos : Pos} (e it : Addr) (x : Str) (t : Tok) :
    Turn P w K (.Tuple elts kk tpos) (IteS x) [e, it] e (fun i h => (∃ old, IsEnum h e it ((i : Nat) : Int) old) ∧ h.IsStrIter it (strIterType x) x t i ∧ e ≠ it) where
  mem := by simp
  obj := fun i h st b hb => by
    obtain ⟨⟨old, he⟩, ⟨o, ho, hc, hd⟩, _⟩ := st
    have e' : b = e ∨ b = it := by simpa using hb
    rcases e' with z | z
    · rw [z]; exact ⟨_, he, fun v q => nomatch q⟩
    · rw [z]; exact ⟨o, ho, fun v q => by rw [hd] at q; cases q⟩
  keep := fun i h h' st k => let ⟨⟨old, he⟩, ⟨o, ho, r⟩, hne⟩ := st; ⟨⟨old, k e (by simp) _ he⟩, ⟨o, k it (by simp) o ho, r⟩, hne⟩
  item := by
    intro X hP hw hK hc i pins s σ H E I hf st hg
    subst hP hw hK
    obtain ⟨⟨old, he⟩, hit, hne⟩ := st
    have hel : e < s.heap.objs.size := Heap.lt_size he
    have hil : it < s.heap.objs.size := by obtain ⟨_, q, _⟩ := hit; exact Heap.lt_size q
    have D := Draws.text (prog := X.prog) (w := X.w) (A := X.A.in1) (I.ok.hd hc) it x t
    refine wpAny_pyNext_enum_itemD D he hit hg hne (by simp; exact hne) fun u' h' tk hP' ho hst' hT hsz hk => ?_
    obtain ⟨c, tu, hcx, rfl⟩ := hP'
    refine ⟨_, rfl, wpAny_letOwnedTupleGo_enum (s := { s with heap := h', toks := tk + 1 }) ho fun h'' he' sb => ?_⟩
    have hT2 : h''.get? s.heap.objs.size = some { cls := .type "tuple", data := .seq #[.int i tk, .str ⟨#[c]⟩ tu] } := (sb.2 _ (Nat.ne_of_gt hel)).trans hT
    have new : ObjOk X.prog X.w (upd H s.heap.objs.size (.tup [.int (i : Nat), .str ⟨#[c]⟩])) h'' s.heap.objs.size (.tup [.int (i : Nat), .str ⟨#[c]⟩]) :=
      ⟨by show 2 ≤ sizeLine; decide, [.int i tk, .str ⟨#[c]⟩ tu], .cons ⟨_, rfl⟩ (.cons ⟨_, rfl⟩ .nil), _, hT2, rfl, _, rfl⟩
    have I1 : Inv X pins σ (upd H s.heap.objs.size (.tup [.int (i : Nat), .str ⟨#[c]⟩])) { s with heap := h'', toks := tk + 1 } :=
      I.turnedNew (ch := [e, it]) (fun b ob hb q => (sb.2 b (fun z => hb (by simp [z]))).trans (hk b ob (fun z => hb (by simp [z])) (fun z => hb (by simp [z])) q)) hf (Nat.le_refl _) new
    refine ⟨.ref s.heap.objs.size, _, I1, rfl, ⟨_, c, rfl, I.hok.fresh (Nat.le_refl _), rfl, hcx⟩, ⟨⟨.str ⟨#[c]⟩ tu, ?_⟩, ?_, hne⟩, fun b hb => ?_⟩
    · have e1 : ((i + 1 : Nat) : Int) = (i : Int) + 1 := by omega
      rw [e1]; exact he'
    · obtain ⟨o2, q2, r2⟩ := hst'
      exact ⟨o2, (sb.2 it (Ne.symm hne)).trans q2, r2⟩
    · have hb' : b < s.heap.objs.size := by
        have e' : b = e ∨ b = it := by simpa using hb
        rcases e' with z | z
        · rw [z]; exact hel
        · rw [z]; exact hil
      rw [upd_ne (Nat.ne_of_lt hb')]
      exact (hf b hb).1
  done := by
    intro X hP hw hK hc i pins s σ H E I hf st hg
    subst hP hw hK
    obtain ⟨⟨old, he⟩, hit, hne⟩ := st
    obtain ⟨f0, f1, f2, f3, f4, f5⟩ := hf it (by simp)
    have hx : x.cps[i]? = none := Array.getElem?_eq_none hg
    have hT : s.TypeIs (.ref e) "enumerate" := ⟨_, he, rfl⟩
    unfold pyNext
    refine wpAny_bind (wpAny_attempt (wpAny_callSpecial?_slot (name := Str.ofString "__next__") hT F.slot_enumerate_next (wpAny_call_entry F.slot_enumerate_next hT F.entry_enumerate_next ?_ (F.args_enumerate_next_1 _))))
    show wpAny _ _ (field (.ref e) 2 >>= _) _ _ _
    refine wpAny_bind (wpAny_field he rfl (x := .ref it) rfl ?_)
    cases ha : x.cps.all (· < 128) with
    | false =>
      have ty : strIterType x = "str_iterator" := by simp only [strIterType, ha, Bool.false_eq_true, if_false]
      rw [ty] at hit
      refine wpAny_bind (wpAny_nextOf_wide_end (I.ok.hd hc) hit hx fun h' y he' hx' => ?_)
      obtain ⟨o, ho, hc'⟩ := hx'
      refine wpAny_bind (wpAny_isInstance (T := "StopIteration") (b := true) ⟨o, ho, hc'⟩ isSubtype_stop ?_)
      exact wpAny_pure ⟨rfl, I.turned (t' := s.toks) (fun b o hb q => he' b o hb q) f0 f1 f3 f4 f5⟩
    | true =>
      have ty : strIterType x = "str_ascii_iterator" := by simp only [strIterType, ha, if_true]
      rw [ty] at hit
      refine wpAny_bind (wpAny_nextOf_ascii_end (I.ok.hd hc) hit hx fun h' y he' hx' => ?_)
      obtain ⟨o, ho, hc'⟩ := hx'
      refine wpAny_bind (wpAny_isInstance (T := "StopIteration") (b := true) ⟨o, ho, hc'⟩ isSubtype_stop ?_)
      exact wpAny_pure ⟨rfl, I.turned (t' := s.toks) (fun b o hb q => he' b o hb q) f0 f1 f3 f4 f5⟩
  self := fun A i s Q E st h => let ⟨⟨_, he⟩, _⟩ := st; wpAny_pyIter_enum he h
def iEnumS (ta : TA) : TI := fun σ H R => ta σ H fun vs H1 => ∃ x, vs = [.str x] ∧ R (IteS x) H1
theorem pi_enumS {X : Cx} {e : Expr} {ta : TA} {p pos tpos : Pos} {elts : List Expr} {kk : Nat} (hg : Gl X "enumerate") (hm : X.mg "enumerate" = none) (ha : PA X [e] ta) (hs : starEach [e] X.env = [(false, eval e X.env)] := by rfl) :
    PI X (.Tuple elts kk tpos) (.Call (.Name "enumerate" p) [e] [] pos) (iEnumS ta) := by
  refine ⟨fun pins s σ H R I h => ?_⟩
  refine Call_ (ld_blt I hg hm boot_enumerate (PyProof.Rows.callWith_type1 (thn (ha.run pos pins s σ H _ I h) fun us s1 ⟨vs, H1, I1, r1, q1⟩ => ?_) hs rfl))
  obtain ⟨x, ex, q⟩ := q1
  subst ex
  cases r1 with
  | cons r rr =>
    cases rr
    obtain ⟨t, rfl⟩ := r
    refine enum_begins1 (begins_text x t) trivial fun h' he hit hsz hk => wpAny_pyIter_enum he ?_
    have I2 : Inv X pins σ H1 { s1 with heap := h' } := I1.kept (t' := s1.toks) hk
    refine ⟨s1.heap.objs.size + 1, [s1.heap.objs.size + 1, s1.heap.objs.size], _, _, H1, rfl, I2, turn_enumS (s1.heap.objs.size + 1) s1.heap.objs.size x t, ⟨⟨.none, he⟩, ⟨_, hit, rfl, rfl⟩, Nat.succ_ne_self _⟩, fun b hb => ?_, q⟩
    have e' : b = s1.heap.objs.size + 1 ∨ b = s1.heap.objs.size := by simpa using hb
    have hle : s1.heap.objs.size ≤ b := by
      rcases e' with z | z
      · rw [z]; exact Nat.le_add_right _ _
      · rw [z]; exact Nat.le_refl _
    exact I1.fpOk hle (I1.hok.fresh hle)
theorem walk_enumS {x : Str} : Walk (IteS x) x.cps.size (fun _ => True) (YPair (fun i => some (.int (i : Nat))) (fun i => x.cps[i]?.map fun c => V.str ⟨#[c]⟩)) := by
  refine ⟨fun i _ hi _ => hi, fun _ _ => Nat.le_refl _, fun i H v H' _ _ y => ?_⟩
  obtain ⟨T, c, h1, h2, h3, h4⟩ := y
  exact ⟨T, .int (i : Nat), .str ⟨#[c]⟩, h1, h2, h3, rfl, by show (x.cps[i]?).map _ = _; rw [h4]; rfl⟩
end Bc
set_option Elab.async false
set_option linter.all false
set_option maxRecDepth 100000
set_option maxHeartbeats 4000000
/-! the first place of a sign in a text; a text some times -/
namespace Bc
open PySem PySem.Spec PyProof.Rows L2 PySem.StrLaws
theorem occ_stay (s sub : Str) (hi : Nat) : ∀ (l : List Nat) (st : Array Nat × Nat), 1 ≤ st.fst.size → (forIn l st (occBody s sub hi 1)).run.fst = st.fst
  | [], st, _ => rfl
  | a :: l, st, h => by
    rw [List.forIn_cons]
    unfold occBody
    rw [if_neg (fun c => by have := c.1.1.1; omega)]
    exact occ_stay s sub hi l _ h
theorem occ_find (s sub : Str) (hi : Nat) : ∀ (l : List Nat) (free : Nat), (∀ i ∈ l, free ≤ i) →
    (forIn l ((#[] : Array Nat), free) (occBody s sub hi 1)).run.fst.toList.head? = l.find? (fun i => decide (i + sub.length ≤ hi) && Builtin.Str.subAt s sub i)
  | [], _, _ => rfl
  | a :: l, free, hf => by
    rw [List.forIn_cons]
    unfold occBody
    have ha : free ≤ a := hf a (List.mem_cons_self ..)
    by_cases hc : a + sub.length ≤ hi ∧ Builtin.Str.subAt s sub a = true
    · rw [if_pos ⟨⟨⟨by simp, ha⟩, hc.1⟩, hc.2⟩]
      have e := occ_stay s sub hi l ((#[] : Array Nat).push a, a + sub.length) (by simp)
      show (forIn l ((#[] : Array Nat).push a, a + sub.length) (occBody s sub hi 1)).run.fst.toList.head? = _
      rw [e, List.find?_cons_of_pos (by rw [decide_eq_true hc.1, hc.2]; rfl)]
      rfl
    · rw [if_neg (fun c => hc ⟨c.1.2, c.2⟩)]
      show (forIn l ((#[] : Array Nat), free) (occBody s sub hi 1)).run.fst.toList.head? = _
      rw [occ_find s sub hi l free (fun i hi' => hf i (List.mem_cons_of_mem _ hi')), List.find?_cons_of_neg]
      intro q
      have q := Bool.and_eq_true_iff.mp q
      exact hc ⟨of_decide_eq_true q.1, q.2⟩
/-- the first place of a sign -/
def ixL (c : Nat) (l : List Nat) : Option Nat := l.findIdx? (fun y => decide (y = c))
theorem index_one (z : Str) (c : Nat) : Txt.index0 z ⟨#[c]⟩ = ixL c z.cps.toList := by
  unfold Txt.index0 ixL
  rw [occ_eq, occ_find z ⟨#[c]⟩ z.length _ 0 (fun _ _ => Nat.zero_le _)]
  have hp : ∀ i, (decide (i + (⟨#[c]⟩ : Str).length ≤ z.length) && Builtin.Str.subAt z ⟨#[c]⟩ i) = true ↔ z.cps.toList[i]? = some c := fun i => by
    rw [← subAt_one z c i, Bool.and_eq_true_iff, decide_eq_true_eq]
  cases h : z.cps.toList.findIdx? (fun y => decide (y = c)) with
  | none =>
    rw [List.find?_eq_none]
    intro i _ q
    have := (hp i).mp q
    have hm := List.mem_of_getElem? this
    have := List.findIdx?_eq_none_iff.mp h c hm
    simp at this
  | some k =>
    obtain ⟨hk, hk1, hk2⟩ := List.findIdx?_eq_some_iff_getElem.mp h
    rw [List.find?_range'_eq_some]
    have hz : z.cps.toList.length = z.length := by simp [Str.length]
    refine ⟨(hp k).mpr ?_, ?_, ?_⟩
    · rw [List.getElem?_eq_getElem hk]
      exact congrArg some (of_decide_eq_true hk1)
    · rw [List.mem_range'_1]
      omega
    · intro j _ hj
      have : ¬ ((decide (j + (⟨#[c]⟩ : Str).length ≤ z.length) && Builtin.Str.subAt z ⟨#[c]⟩ j) = true) := fun q => by
        have q := (hp j).mp q
        have hj2 := hk2 j hj
        rw [List.getElem?_eq_getElem (by omega)] at q
        exact hj2 (decide_eq_true (Option.some.inj q))
      exact Bool.not_eq_true' _ ▸ Bool.eq_false_iff.mpr this
/-- s.index(sign) where it lies -/
def rIx1 : V → List V → Hp → VK → Prop := fun x xs H Q => ∃ (a : Str) (c k : Nat), x = .str a ∧ xs = [.str ⟨#[c]⟩] ∧ ixL c a.cps.toList = some k ∧ Q (.int (k : Nat)) H
theorem mt_index1 {X : Cx} : MtR X "str.index" rIx1 := by
  intro pins s σ H x xs v us Q I rx rs h
  obtain ⟨a, c, k, rfl, rfl, hk, w⟩ := h
  obtain ⟨t, rfl⟩ := rx
  cases rs with
  | cons r1 rs =>
    cases rs
    obtain ⟨u, rfl⟩ := r1
    rw [← index_one] at hk
    unfold Txt.index0 at hk
    cases q : Builtin.Str.occurrences a ⟨#[c]⟩ 0 a.length 1 with
    | nil => rw [q] at hk; cases hk
    | cons k' rest =>
      rw [q] at hk
      cases Option.some.inj hk
      exact PySem.SC.index q ⟨.int (k : Nat), H, I.tok _, ⟨_, rfl⟩, w⟩
/-! a text k times -/
def repS (z : Str) (k : Nat) : Str := ⟨(List.replicate k z.cps).foldl (· ++ ·) #[]⟩
theorem repS_len (z : Str) (k : Nat) : (repS z k).length = z.length * k := by
  have : ∀ (k : Nat) (a : Array Nat), ((List.replicate k z.cps).foldl (· ++ ·) a).size = a.size + z.length * k := by
    intro k
    induction k with
    | zero => intro a; simp
    | succ k ih =>
      intro a
      rw [List.replicate_succ, List.foldl_cons, ih, Array.size_append, Nat.mul_succ]
      show a.size + z.cps.size + z.cps.size * k = a.size + (z.cps.size * k + z.cps.size)
      omega
  have := this k #[]
  show ((List.replicate k z.cps).foldl (· ++ ·) #[]).size = _
  simpa using this
def rRepS : R2 := fun x y H Q => ∃ (z : Str) (k : Nat), x = .str z ∧ y = .int (k : Int) ∧ 1 < k ∧ 0 < z.length ∧ z.length * k ≤ 1000000 ∧ Q (.str (repS z k)) H
theorem op_repS {X : Cx} : OpR X (binaryOp .Mult) rRepS := by
  intro pins s σ H x y v u Q I rx ry h
  obtain ⟨z, k, rfl, rfl, h1, h2, h3, q⟩ := h
  obtain ⟨t, rfl⟩ := rx
  obtain ⟨t', rfl⟩ := ry
  have hk : k ≤ z.length * k := Nat.le_mul_of_pos_left k h2
  have hz : z.length ≤ z.length * k := Nat.le_mul_of_pos_right _ (by omega)
  refine P.mul_str (by rw [decide_eq_false (by omega), decide_eq_false (by omega)]; rfl) (fun _ _ => ?_) (fun _ _ => ?_) ?_
  · intro hb
    have hm : (z.length : Int) * k ≤ 1000000 := by rw [← Int.natCast_mul]; exact Int.ofNat_le.mpr h3
    have : (z.length : Int) ≤ (2 ^ 63 - 1) / (k : Int) := Int.le_ediv_of_mul_le (by omega) (by omega)
    omega
  · show decide (z.length * ((k : Nat) : Int).toNat > sizeLine) = false
    refine decide_eq_false ?_
    have : (1000000 : Nat) ≤ sizeLine := by decide
    rw [Int.toNat_natCast]
    omega
  · rw [if_neg (by omega), if_neg (by
      have e1 : ((k : Int) == 1) = false := by rw [beq_eq_false_iff_ne]; omega
      have e2 : (z.length == 0) = false := by rw [beq_eq_false_iff_ne]; omega
      rw [e1, e2]; decide)]
    refine ⟨?_, .str (repS z k), H, I.tok _, ⟨_, rfl⟩, q⟩
    show (repS z k).length ≤ sizeLine
    rw [repS_len]
    exact Nat.le_trans h3 (by decide)
end Bc
set_option Elab.async false
set_option linter.all false
set_option maxRecDepth 100000
set_option maxHeartbeats 4000000
/-! texts of curves, plain -/
namespace Bc
open PySem PySem.Spec PyProof.Rows L2
def st (l : List Nat) : Str := ⟨l.toArray⟩
theorem st_list (l : List Nat) : (st l).cps.toList = l := rfl
theorem st_len (l : List Nat) : (st l).length = l.length := by show l.toArray.size = _; rw [List.size_toArray]
theorem st_of (z : Str) : st z.cps.toList = z := rfl
theorem st_inj {a b : List Nat} (h : st a = st b) : a = b := congrArg (fun z : Str => z.cps.toList) h
def Kd.l : Kd → List Nat
  | .sum => [115, 117, 109]
  | .times => [116, 105, 109, 101, 115]
  | .max => [109, 97, 120]
  | .min => [109, 105, 110]
  | .into => [105, 110, 116, 111]
theorem Kd.st_l (k : Kd) : st k.l = k.s := by cases k <;> decide +kernel
def numT (n : Int) : List Nat := ((toString n : String) : Str).cps.toList
/-- the text of a curve -/
def wl : Cv → List Nat
  | .x => [120]
  | .num n => numT n
  | .abs a => 97 :: 98 :: 115 :: 40 :: (wl a ++ [41])
  | .bin k a b => k.l ++ 40 :: ((wl a ++ 44 :: wl b) ++ [41])
/-- number_of -/
def digL : List Nat → List Nat
  | 45 :: r => r
  | t => t
def negL : List Nat → Bool
  | 45 :: _ => true
  | _ => false
def numL (t : List Nat) : Option Cv := match digL t with
  | [c] => if 48 ≤ c ∧ c ≤ 57 then some (.num (((c - 48 : Nat) : Int) * (if negL t then -1 else 1))) else none
  | _ => none
/-- comma_in -/
def step40 (c : Nat) : Int := if c = 40 then 1 else if c = 41 then -1 else 0
def commas : Int → Nat → List Nat → List Nat
  | _, _, [] => []
  | d, i, c :: r => if c = 44 ∧ d + step40 c = 0 then i :: commas (d + step40 c) (i + 1) r else commas (d + step40 c) (i + 1) r
def commaL (t : List Nat) : Option Nat := match commas 0 0 t with
  | [k] => some k
  | _ => none
def pairL (k : Kd) : Option Cv → Option Cv → Option Cv
  | some a, some b => some (.bin k a b)
  | _, _ => none
/-- what curve_of does with a kind and what stands in parentheses -/
def partL (f : List Nat → Option Cv) (t : List Nat) (n : Nat) : Option Cv :=
  if t.getLast? ≠ some 41 then none
  else if t.take n = [97, 98, 115] then (f (t.drop (n + 1)).dropLast).map .abs
  else match kdOf (st (t.take n)) with
    | none => none
    | some k => match commaL (t.drop (n + 1)).dropLast with
      | none => none
      | some c => pairL k (f ((t.drop (n + 1)).dropLast.take c)) (f ((t.drop (n + 1)).dropLast.drop (c + 1)))
/-- curve_of -/
def curveL : Nat → List Nat → Option Cv
  | 0, _ => none
  | n + 1, t => if t = [120] then some .x else match t.findIdx? (fun y => decide (y = 40)) with
    | none => numL t
    | some i => partL (curveL n) t i
/-- parse_curve -/
def parseL (t : List Nat) : Option Cv := if 200 < t.length then none else match curveL 15 t with
  | none => none
  | some c => if (c.ok && decide (wl c = t)) = true then some c else none
/-! ### what is written is parsed -/
theorem numT_fin : ∀ g : Fin 19, numL (numT ((g.val : Int) - 9)) = some (.num ((g.val : Int) - 9)) ∧ (∀ c ∈ numT ((g.val : Int) - 9), c ≠ 40 ∧ c ≠ 41 ∧ c ≠ 44) ∧ numT ((g.val : Int) - 9) ≠ [120] ∧ (numT ((g.val : Int) - 9)).length ≤ 2 := by decide +kernel
theorem numT_of {n : Int} (h1 : -9 ≤ n) (h2 : n ≤ 9) : numL (numT n) = some (.num n) ∧ (∀ c ∈ numT n, c ≠ 40 ∧ c ≠ 41 ∧ c ≠ 44) ∧ numT n ≠ [120] ∧ (numT n).length ≤ 2 := by
  have := numT_fin ⟨(n + 9).toNat, by omega⟩
  have e : (((n + 9).toNat : Nat) : Int) - 9 = n := by omega
  rw [e] at this
  exact this
theorem in9_num {n : Int} (h : (Cv.num n).in9 = true) : -9 ≤ n ∧ n ≤ 9 := by
  have := Bool.and_eq_true_iff.mp h
  exact ⟨of_decide_eq_true this.1, of_decide_eq_true this.2⟩
theorem commas_plain (r : List Nat) : ∀ (l : List Nat) (d : Int) (i : Nat), (∀ c ∈ l, c ≠ 40 ∧ c ≠ 41 ∧ c ≠ 44) → commas d i (l ++ r) = commas d (i + l.length) r
  | [], d, i, _ => rfl
  | c :: l, d, i, h => by
    have hc := h c (List.mem_cons_self ..)
    show (if c = 44 ∧ d + step40 c = 0 then _ else _) = _
    rw [if_neg (fun z => hc.2.2 z.1)]
    have e : step40 c = 0 := by unfold step40; rw [if_neg hc.1, if_neg hc.2.1]
    rw [e, Int.add_zero]
    show commas d (i + 1) (l ++ r) = _
    rw [commas_plain r l d (i + 1) (fun y hy => h y (List.mem_cons_of_mem _ hy)), List.length_cons]
    exact congrArg (fun z => commas d z r) (by omega)
theorem kd_plain (k : Kd) : ∀ c ∈ k.l, c ≠ 40 ∧ c ≠ 41 ∧ c ≠ 44 := by cases k <;> decide
theorem commas_open (d : Int) (i : Nat) (r : List Nat) : commas d i (40 :: r) = commas (d + 1) (i + 1) r := by
  show (if (40 : Nat) = 44 ∧ _ then _ else _) = _
  rw [if_neg (fun z => by cases z.1)]
  rfl
theorem commas_close (d : Int) (i : Nat) (r : List Nat) : commas d i (41 :: r) = commas (d - 1) (i + 1) r := by
  show (if (41 : Nat) = 44 ∧ _ then _ else _) = _
  rw [if_neg (fun z => by cases z.1)]
  rfl
theorem commas_in {d : Int} (hd : d ≠ 0) (i : Nat) (r : List Nat) : commas d i (44 :: r) = commas d (i + 1) r := by
  show (if (44 : Nat) = 44 ∧ d + step40 44 = 0 then _ else _) = _
  have e : step40 44 = 0 := rfl
  rw [e, Int.add_zero, if_neg (fun z => hd z.2)]
theorem commas_wl : ∀ (c : Cv), c.in9 = true → ∀ (d : Int) (i : Nat) (r : List Nat), 0 ≤ d → commas d i (wl c ++ r) = commas d (i + (wl c).length) r
  | .x, _, d, i, r, _ => commas_plain r [120] d i (by decide)
  | .num n, h, d, i, r, _ => by
    obtain ⟨h1, h2⟩ := in9_num h
    exact commas_plain r _ d i (numT_of h1 h2).2.1
  | .abs a, h, d, i, r, hd => by
    have e : wl (.abs a) ++ r = [97, 98, 115] ++ 40 :: (wl a ++ 41 :: r) := by show _ :: _ :: _ :: _ :: _ = _; simp
    rw [e, commas_plain _ [97, 98, 115] d i (by decide), commas_open, commas_wl a h (d + 1) _ _ (by omega), commas_close]
    have e2 : (wl (.abs a)).length = (wl a).length + 5 := by show List.length (_ :: _ :: _ :: _ :: _) = _; simp
    rw [e2]
    have e3 : d + 1 - 1 = d := by omega
    rw [e3]
    exact congrArg (fun z => commas d z r) (by show i + 3 + 1 + _ + 1 = _; omega)
  | .bin k a b, h, d, i, r, hd => by
    have h := Bool.and_eq_true_iff.mp h
    have e : wl (.bin k a b) ++ r = k.l ++ 40 :: (wl a ++ 44 :: (wl b ++ 41 :: r)) := by show (k.l ++ 40 :: _) ++ r = _; simp
    rw [e, commas_plain _ k.l d i (kd_plain k), commas_open, commas_wl a h.1 (d + 1) _ _ (by omega), commas_in (by omega), commas_wl b h.2 (d + 1) _ _ (by omega), commas_close]
    have e2 : (wl (.bin k a b)).length = k.l.length + ((wl a).length + (wl b).length) + 3 := by show (k.l ++ 40 :: _).length = _; simp; omega
    rw [e2]
    have e3 : d + 1 - 1 = d := by omega
    rw [e3]
    exact congrArg (fun z => commas d z r) (by omega)
theorem comma_two {a b : Cv} (ha : a.in9 = true) (hb : b.in9 = true) : commaL (wl a ++ 44 :: wl b) = some (wl a).length := by
  unfold commaL
  have e : commas 0 0 (wl a ++ 44 :: wl b) = [(wl a).length] := by
    rw [commas_wl a ha 0 0 _ (Int.le_refl _), Nat.zero_add]
    show (if (44 : Nat) = 44 ∧ (0 : Int) + step40 44 = 0 then _ else _) = _
    rw [if_pos ⟨rfl, rfl⟩]
    have := commas_wl b hb (0 + step40 44) ((wl a).length + 1) [] (by decide)
    rw [List.append_nil] at this
    rw [this]
    rfl
  rw [e]
theorem idx_at (l r : List Nat) (h : ∀ c ∈ l, c ≠ 40) : (l ++ 40 :: r).findIdx? (fun y => decide (y = 40)) = some l.length := by
  induction l with
  | nil => rfl
  | cons c l ih =>
    rw [List.cons_append, List.findIdx?_cons, decide_eq_false (h c (List.mem_cons_self ..)), ih (fun y hy => h y (List.mem_cons_of_mem _ hy))]
    rfl
theorem idx_none (l : List Nat) (h : ∀ c ∈ l, c ≠ 40) : l.findIdx? (fun y => decide (y = 40)) = none :=
  List.findIdx?_eq_none_iff.mpr fun y hy => decide_eq_false (h y hy)
theorem part_cut (l m : List Nat) : ((l ++ 40 :: (m ++ [41])).drop (l.length + 1)).dropLast = m ∧ (l ++ 40 :: (m ++ [41])).take l.length = l ∧ (l ++ 40 :: (m ++ [41])).getLast? = some 41 := by
  refine ⟨?_, ?_, ?_⟩
  · rw [← List.drop_drop, List.drop_left]
    show (m ++ [41]).dropLast = m
    simp
  · exact List.take_left
  · have : l ++ 40 :: (m ++ [41]) = (l ++ 40 :: m) ++ [41] := by simp
    rw [this, List.getLast?_concat]
theorem kd_abs (k : Kd) : k.l ≠ [97, 98, 115] := by cases k <;> decide
theorem ne_x (l m : List Nat) : l ++ 40 :: m ≠ [120] := fun h => by
  have : (40 : Nat) ∈ [120] := h ▸ List.mem_append_right _ (List.mem_cons_self ..)
  revert this; decide
theorem curve_wl : ∀ (c : Cv) (n : Nat), c.in9 = true → c.depth ≤ n → curveL n (wl c) = some c
  | c, 0, _, h => by cases c <;> exact absurd h (by show ¬ _ + 1 ≤ 0; omega)
  | .x, n + 1, _, _ => rfl
  | .num q, n + 1, h, _ => by
    obtain ⟨h1, h2⟩ := in9_num h
    obtain ⟨a1, a2, a3, _⟩ := numT_of h1 h2
    have e : wl (.num q) = numT q := rfl
    rw [e]
    show (if numT q = [120] then _ else _) = _
    rw [if_neg a3, idx_none _ (fun c hc => (a2 c hc).1)]
    exact a1
  | .abs a, n + 1, h, hn => by
    have hn : a.depth + 1 ≤ n + 1 := hn
    have e : wl (.abs a) = [97, 98, 115] ++ 40 :: (wl a ++ [41]) := rfl
    rw [e]
    show (if _ = [120] then _ else _) = _
    rw [if_neg (ne_x _ _), idx_at [97, 98, 115] _ (by decide)]
    show partL (curveL n) _ _ = _
    obtain ⟨c1, c2, c3⟩ := part_cut [97, 98, 115] (wl a)
    unfold partL
    rw [c1, c2, c3, if_neg (fun z => z rfl), if_pos rfl, curve_wl a n h (by omega)]
    rfl
  | .bin k a b, n + 1, h, hn => by
    have h := Bool.and_eq_true_iff.mp h
    have hn : max a.depth b.depth + 1 ≤ n + 1 := hn
    have e : wl (.bin k a b) = k.l ++ 40 :: ((wl a ++ 44 :: wl b) ++ [41]) := rfl
    rw [e]
    show (if _ = [120] then _ else _) = _
    rw [if_neg (ne_x _ _)]
    rw [idx_at k.l _ (fun c hc => (kd_plain k c hc).1)]
    show partL (curveL n) _ _ = _
    obtain ⟨c1, c2, c3⟩ := part_cut k.l (wl a ++ 44 :: wl b)
    unfold partL
    rw [c1, c2, c3, if_neg (fun z => z rfl), if_neg (kd_abs k), Kd.st_l, kdOf_s]
    show (match commaL (wl a ++ 44 :: wl b) with | none => _ | some c => _) = _
    rw [comma_two h.1 h.2]
    show pairL k (curveL n ((wl a ++ 44 :: wl b).take (wl a).length)) (curveL n ((wl a ++ 44 :: wl b).drop ((wl a).length + 1))) = _
    rw [List.take_left, ← List.drop_drop, List.drop_left]
    show pairL k (curveL n (wl a)) (curveL n (wl b)) = _
    rw [curve_wl a n h.1 (by omega), curve_wl b n h.2 (by omega)]
    rfl
theorem kd_len (k : Kd) : k.l.length ≤ 5 := by cases k <;> decide
theorem wl_len : ∀ c : Cv, c.in9 = true → (wl c).length ≤ 8 * c.size
  | .x, _ => by decide
  | .num n, h => by
    obtain ⟨h1, h2⟩ := in9_num h
    have := (numT_of h1 h2).2.2.2
    show (numT n).length ≤ 8 * 1
    omega
  | .abs a, h => by
    have := wl_len a h
    have e2 : (wl (.abs a)).length = (wl a).length + 5 := by show List.length (_ :: _ :: _ :: _ :: _) = _; simp
    rw [e2]
    show _ ≤ 8 * (1 + a.size)
    omega
  | .bin k a b, h => by
    have h := Bool.and_eq_true_iff.mp h
    have h1 := wl_len a h.1
    have h2 := wl_len b h.2
    have e2 : (wl (.bin k a b)).length = k.l.length + ((wl a).length + (wl b).length) + 3 := by show (k.l ++ 40 :: _).length = _; simp; omega
    rw [e2]
    have := kd_len k
    show _ ≤ 8 * (1 + (a.size + b.size))
    omega
end Bc
set_option Elab.async false
set_option linter.all false
set_option maxRecDepth 100000
set_option maxHeartbeats 4000000
set_option pp.maxSteps 700
namespace Bc
open PySem PySem.Spec PyProof.Rows L2
/-! ### cuts of a text -/
theorem cut_pre (l : List Nat) (k : Nat) : cutS (st l) none (some (k : Int)) = st (l.take k) := by
  unfold cutS
  rw [HT.sIx_none, HT.sIx_nat, st_len]
  show st ((l.drop 0).take (min k l.length - 0)) = _
  rw [List.drop_zero, Nat.sub_zero]
  congr 1
  by_cases h : k ≤ l.length
  · rw [Nat.min_eq_left h]
  · rw [Nat.min_eq_right (by omega), List.take_of_length_le (Nat.le_refl _), List.take_of_length_le (by omega)]
theorem cut_suf (l : List Nat) (k : Nat) : cutS (st l) (some (k : Int)) none = st (l.drop k) := by
  unfold cutS
  rw [HT.sIx_none, HT.sIx_nat, st_len]
  show st ((l.drop (min k l.length)).take (l.length - min k l.length)) = _
  congr 1
  by_cases h : k ≤ l.length
  · rw [Nat.min_eq_left h, List.take_of_length_le (by rw [List.length_drop]; omega)]
  · rw [Nat.min_eq_right (by omega), List.drop_eq_nil_of_le (Nat.le_refl _), List.drop_eq_nil_of_le (by omega), List.take_nil]
theorem cut_mid (l : List Nat) (k : Nat) : cutS (st l) (some (k : Int)) (some (-1)) = st (l.drop k).dropLast := by
  unfold cutS
  have e : HT.sIx (st l).length (st l).length (some (-1)) = l.length - 1 := by
    rw [st_len]
    show (if (-1 : Int) < 0 then ((-1 : Int) + (l.length : Int)).toNat else min (-1 : Int).toNat l.length) = _
    rw [if_pos (by decide)]
    omega
  rw [e, HT.sIx_nat, st_len]
  show st ((l.drop (min k l.length)).take (l.length - 1 - min k l.length)) = _
  congr 1
  rw [List.dropLast_eq_take, List.length_drop]
  by_cases h : k ≤ l.length
  · rw [Nat.min_eq_left h]
    congr 1
    omega
  · rw [Nat.min_eq_right (by omega), List.drop_eq_nil_of_le (Nat.le_refl _), List.drop_eq_nil_of_le (show l.length ≤ k by omega), List.take_nil, List.take_nil]
theorem str_dec (a b : List Nat) : decide (V.str (st a) = V.str (st b)) = decide (a = b) := by
  by_cases h : a = b
  · rw [h, decide_eq_true rfl, decide_eq_true rfl]
  · rw [decide_eq_false h, decide_eq_false fun z => h (st_inj (by injection z))]
theorem lit_minus : ("-" : Str) = st [45] := by decide +kernel
theorem neg_eq (l : List Nat) : decide (V.str (cutS (st l) none (some 1)) = V.str "-") = negL l := by
  have := cut_pre l 1
  rw [show (some ((1 : Nat) : Int)) = some (1 : Int) from rfl] at this
  rw [this, lit_minus, str_dec]
  cases l with
  | nil => rfl
  | cons c r =>
    by_cases h : c = 45
    · subst h; rfl
    · have e1 : List.take 1 (c :: r) ≠ [45] := fun z => h (by injection z)
      rw [decide_eq_false e1]
      unfold negL
      split
      · rename_i z; injection z with z; exact absurd z h
      · rfl
theorem dig_neg {l : List Nat} (h : negL l = true) : cutS (st l) (some 1) none = st (digL l) := by
  have := cut_suf l 1
  rw [show (some ((1 : Nat) : Int)) = some (1 : Int) from rfl] at this
  rw [this]
  unfold negL at h
  split at h
  · rfl
  · cases h
theorem dig_pos {l : List Nat} (h : negL l = false) : digL l = l := by
  unfold negL at h
  split at h
  · cases h
  · rename_i h2
    unfold digL
    split
    · exact absurd rfl (h2 _)
    · rfl
theorem dig_len (l : List Nat) : (digL l).length ≤ l.length := by
  unfold digL
  split
  · exact Nat.le_succ _
  · exact Nat.le_refl _
theorem mem_dig (c : Nat) : decide (c ∈ ("0123456789" : Str).cps.toList) = decide (48 ≤ c ∧ c ≤ 57) := by
  have e : ("0123456789" : Str).cps.toList = [48, 49, 50, 51, 52, 53, 54, 55, 56, 57] := by decide +kernel
  rw [e]
  refine decide_eq_decide.mpr ?_
  simp only [List.mem_cons, List.not_mem_nil, or_false]
  omega
theorem int_fin : ∀ g : Fin 10, PySem.intText? (st [48 + g.val]) = some (g.val : Int) := by decide +kernel
theorem int_dig {c : Nat} (h1 : 48 ≤ c) (h2 : c ≤ 57) : PySem.intText? (st [c]) = some ((c - 48 : Nat) : Int) := by
  have := int_fin ⟨c - 48, by omega⟩
  have e : 48 + (c - 48) = c := by omega
  rw [show 48 + (⟨c - 48, by omega⟩ : Fin 10).val = c from e] at this
  exact this
/-! ### the comma -/
def depL (l : List Nat) : Int := (l.map step40).sum
theorem depL_snoc (l : List Nat) (c : Nat) : depL (l ++ [c]) = depL l + step40 c := by
  unfold depL
  rw [List.map_append, List.sum_append]
  simp
theorem commas_snoc : ∀ (a : List Nat) (d : Int) (i c : Nat), commas d i (a ++ [c]) = commas d i a ++ (if c = 44 ∧ d + depL a + step40 c = 0 then [i + a.length] else [])
  | [], d, i, c => by
    show (if c = 44 ∧ d + step40 c = 0 then [i] else []) = [] ++ _
    have e : d + depL [] + step40 c = d + step40 c := by show d + 0 + _ = _; rw [Int.add_zero]
    rw [e]
    rfl
  | x :: a, d, i, c => by
    have e : depL (x :: a) = step40 x + depL a := by unfold depL; rw [List.map_cons, List.sum_cons]
    have ih := commas_snoc a (d + step40 x) (i + 1) c
    rw [e, show d + (step40 x + depL a) + step40 c = d + step40 x + depL a + step40 c by omega, show i + (x :: a).length = i + 1 + a.length by rw [List.length_cons]; omega]
    show (if x = 44 ∧ d + step40 x = 0 then i :: commas (d + step40 x) (i + 1) (a ++ [c]) else commas (d + step40 x) (i + 1) (a ++ [c])) = (if x = 44 ∧ d + step40 x = 0 then i :: commas (d + step40 x) (i + 1) a else commas (d + step40 x) (i + 1) a) ++ _
    rw [ih]
    split <;> rfl
theorem commas_len : ∀ (l : List Nat) (d : Int) (i : Nat), (commas d i l).length ≤ l.length
  | [], _, _ => Nat.le_refl _
  | x :: a, d, i => by
    have ih := commas_len a (d + step40 x) (i + 1)
    show (if x = 44 ∧ d + step40 x = 0 then i :: commas (d + step40 x) (i + 1) a else commas (d + step40 x) (i + 1) a).length ≤ a.length + 1
    split
    · rw [List.length_cons]; omega
    · omega
def commaI (l : List Nat) : Int := match commaL l with
  | some k => (k : Int)
  | none => -1
theorem lit_open : ("(" : Str) = st [40] := by decide +kernel
theorem lit_close : (")" : Str) = st [41] := by decide +kernel
theorem lit_comma : ("," : Str) = st [44] := by decide +kernel
theorem sign_dec (a b : Nat) : decide (V.str (st [a]) = V.str (st [b])) = decide (a = b) := by
  rw [str_dec]
  by_cases h : a = b
  · rw [h, decide_eq_true rfl, decide_eq_true rfl]
  · rw [decide_eq_false h, decide_eq_false fun z => h (by injection z)]
def iT (K : PySem.W.Frag) : Value := .ref (He.ga K "InvalidText")
section
variable {P : Program} {w : World} {K : PySem.W.Frag} {mg : Str → Option Value} {base : Heap}
/-- gives a curve or refuses the text -/
def txRes (K : PySem.W.Frag) (r : Option Cv) (H : Hp) (Q : VK) (E : XK) : Prop :=
  (∀ c, r = some c → ∀ v H', Same H H' → Dp K H' v c.d → Q v H') ∧ (r = none → ∀ H', Same H H' → E (iT K) none H')
theorem sc_number_of : FnScope ["text", "digit"] ["text"] (defScope s_number_of) := ⟨rfl, rfl, rfl, by decide +kernel, rfl, by decide +kernel, by decide +kernel⟩
def spNumber (K : PySem.W.Frag) : Sp := fun vs H Q E => ∃ l : List Nat, vs = [.str (st l)] ∧ l.length ≤ 200 ∧ txRes K (numL l) H Q E
theorem c_number_of (B : Blt mg) (x_InvalidText : ExcAt K mg "InvalidText") (F : DefAt K mg "number_of" s_number_of) : Cal P w K mg base (CX P w) 1 "number_of" ["text"] (spNumber K) := by
  obtain ⟨⟨fd, F⟩, gl⟩ := F
  refine cal_of F gl sc_number_of (fun _ _ _ _ _ _ us hl => match us, hl with | [_], _ => rfl) (fun vs H Q E h => by obtain ⟨_, rfl, _⟩ := h; rfl) (fun cdv A outer s H vs Q E hr h => ?_)
  obtain ⟨l, rfl, h2, hQ, hE⟩ := h
  refine ⟨_, (pss_cons (ps_set (i := 1) sc_number_of.nd rfl (Or.inl rfl) (pe_ifExp (pt_cmpR op_eq (pe_slice sl_str (pv 0) po_none (po_some pe_int)) pe_str (nomark _)) (pe_slice sl_str (pv 0) (po_some pe_int) po_none) (pv 0)))
      (pss_cons (ps_if (PW.pt (pw_or (pt_cmpR op_ne (pe_callB call_len (by rfl) B.len (by decide +kernel) (pa_cons (pv 1) pa_nil)) pe_int (nomark _)) (pw_or1 (pt_cmpR op_notInS (pv 1) pe_str (by rfl)))))
        (pss_one (L2N.ps_raise rfl (L2N.takes_of rfl rfl rfl rfl) (L2N.pmk_own PySem.F.excBase_ValueError x_InvalidText.x x_InvalidText.g x_InvalidText.k (raises_own x_InvalidText.b x_InvalidText.t) rfl)))
        pss_nil)
      (PSs.nox (pss_one (ps_ret (pe_tup (pa_cons pe_str (pa_cons (pe_op op_mulM (pe_callTy call_int_str (by rfl) B.int (by decide +kernel) (pa_cons (pv 1) pa_nil)) (pe_ifExp (pt_cmpR op_eq (pe_slice sl_str (pv 0) po_none (po_some pe_int)) pe_str (nomark _)) (pe_un un_neg pe_int) pe_int)) pa_nil)))))))), ?_⟩
  have hl : (st l).length ≤ sizeLine := by rw [st_len]; exact Nat.le_trans h2 (by decide)
  refine ⟨_, rfl, 1, rfl, _, rfl, hl, rfl, _, rfl, ?_⟩
  rw [neg_eq]
  cases hn : negL l with
  | true =>
    refine iteT ⟨_, rfl, 1, rfl, _, rfl, hl, ?_⟩
    rw [dig_neg hn]
    have hd : (st (digL l)).length ≤ sizeLine := by rw [st_len]; exact Nat.le_trans (Nat.le_trans (dig_len l) h2) (by decide)
    refine ⟨_, rfl, _, _, rfl, ⟨hd, rfl⟩, rfl, _, rfl, ?_⟩
    by_cases h1 : (digL l).length = 1
    · rw [decide_eq_true (show V.int ((st (digL l)).length : Nat) = V.int 1 by rw [st_len, h1]; rfl)]
      obtain ⟨c, hc⟩ := List.length_eq_one_iff.mp h1
      have hnum : numL l = if 48 ≤ c ∧ c ≤ 57 then some (.num (((c - 48 : Nat) : Int) * (if negL l then -1 else 1))) else none := by unfold numL; rw [hc]
      refine iteF ⟨_, rfl, c, _, by rw [hc]; rfl, rfl, _, rfl, ?_⟩
      rw [mem_dig]
      by_cases h3 : 48 ≤ c ∧ c ≤ 57
      · rw [decide_eq_true h3]
        rw [if_pos h3, hn] at hnum
        refine iteF ?_
        refine ⟨_, rfl, _, _, rfl, (by rw [hc]; exact int_dig h3.1 h3.2), (by rw [st_len]; omega), ?_⟩
        refine ⟨_, rfl, 1, rfl, _, rfl, hl, rfl, _, rfl, ?_⟩
        rw [neg_eq, hn]
        refine iteT ⟨_, rfl, _, _, rfl, rfl, (bd_sm (by omega) (by omega)).cm (bd_small (b := 1) (by decide) (by decide) : Bd 100 _) (by decide), (by show 2 ≤ sizeLine; decide), fun t ht => ?_⟩
        exact hQ _ hnum _ _ (Same.new ht) (.tup (SqT.of upd_same) (.cons (.str _) (.cons (.int _) .nil)))
      · rw [decide_eq_false h3]
        rw [if_neg h3] at hnum
        exact iteT (hE hnum _ (Same.refl _))
    · rw [decide_eq_false (show ¬ V.int ((st (digL l)).length : Nat) = V.int 1 from fun z => h1 (by rw [st_len] at z; injection z with z; omega))]
      have hnum : numL l = none := by
        unfold numL
        split
        · rename_i hc; rw [hc] at h1; exact absurd rfl h1
        · rfl
      exact iteT (iteT (hE hnum _ (Same.refl _)))
  | false =>
    refine iteF ⟨_, rfl, ?_⟩
    have hd : (st (l)).length ≤ sizeLine := by rw [st_len]; exact Nat.le_trans (Nat.le_trans (Nat.le_refl _) h2) (by decide)
    refine ⟨_, rfl, _, _, rfl, ⟨hd, rfl⟩, rfl, _, rfl, ?_⟩
    by_cases h1 : (l).length = 1
    · rw [decide_eq_true (show V.int ((st (l)).length : Nat) = V.int 1 by rw [st_len, h1]; rfl)]
      obtain ⟨c, hc⟩ := List.length_eq_one_iff.mp h1
      have hnum : numL l = if 48 ≤ c ∧ c ≤ 57 then some (.num (((c - 48 : Nat) : Int) * (if negL l then -1 else 1))) else none := by unfold numL; rw [dig_pos hn, hc]
      refine iteF ⟨_, rfl, c, _, by rw [hc]; rfl, rfl, _, rfl, ?_⟩
      rw [mem_dig]
      by_cases h3 : 48 ≤ c ∧ c ≤ 57
      · rw [decide_eq_true h3]
        rw [if_pos h3, hn] at hnum
        refine iteF ?_
        refine ⟨_, rfl, _, _, rfl, (by rw [hc]; exact int_dig h3.1 h3.2), (by rw [st_len]; omega), ?_⟩
        refine ⟨_, rfl, 1, rfl, _, rfl, hl, rfl, _, rfl, ?_⟩
        rw [neg_eq, hn]
        refine iteF ⟨_, _, rfl, rfl, (bd_sm (by omega) (by omega)).cm (bd_small (b := 1) (by decide) (by decide) : Bd 100 _) (by decide), (by show 2 ≤ sizeLine; decide), fun t ht => ?_⟩
        exact hQ _ hnum _ _ (Same.new ht) (.tup (SqT.of upd_same) (.cons (.str _) (.cons (.int _) .nil)))
      · rw [decide_eq_false h3]
        rw [if_neg h3] at hnum
        exact iteT (hE hnum _ (Same.refl _))
    · rw [decide_eq_false (show ¬ V.int ((st (l)).length : Nat) = V.int 1 from fun z => h1 (by rw [st_len] at z; injection z with z; omega))]
      have hnum : numL l = none := by
        unfold numL
        rw [dig_pos hn]
        split
        · exact absurd rfl h1
        · rfl
      exact iteT (iteT (hE hnum _ (Same.refl _)))
theorem sc_comma_in : FnScope ["text", "deep", "found", "at", "sign"] ["text"] (defScope s_comma_in) := ⟨rfl, rfl, rfl, by decide +kernel, rfl, by decide +kernel, by decide +kernel⟩
def spComma (K : PySem.W.Frag) : Sp := fun vs H Q _ => ∃ l : List Nat, vs = [.str (st l)] ∧ l.length ≤ 200 ∧ ∀ H', Same H H' → Q (.int (commaI l)) H'
theorem c_comma_in (B : Blt mg) (F : DefAt K mg "comma_in" s_comma_in) : Cal P w K mg base CX0 1 "comma_in" ["text"] (spComma K) := by
  obtain ⟨⟨fd, F⟩, gl⟩ := F
  refine cal_of0 F gl sc_comma_in (fun _ _ _ _ _ _ us hl => match us, hl with | [_], _ => rfl) (fun vs H Q E h => by obtain ⟨_, rfl, _⟩ := h; rfl) (fun cdv A outer s H vs Q E hr h => ?_)
  obtain ⟨l, rfl, h2, hQ⟩ := h
  refine ⟨_, (pss_cons (ps_par (i := 1) (j := 2) rfl sc_comma_in.nd rfl rfl (by decide) rfl rfl (pa_cons pe_int (pa_cons (pe_lst pa_nil) pa_nil)) (by rfl))
      (pss_cons (ps_for PassesOwn.never rfl (pi_enumS (by rfl) B.enumerate (pa_cons (pv 0) pa_nil)) (pg_tup rfl (pgs_cons (pg_name (i := 3) sc_comma_in.nd rfl (Or.inl rfl)) (pgs_cons (pg_name (i := 4) sc_comma_in.nd rfl (Or.inl rfl)) pgs_nil)))
        (pss_cons (ps_set (i := 1) sc_comma_in.nd rfl (Or.inl rfl) (pe_op op_add (pv 1) (pe_ifExp (pt_cmpR op_eq (pv 4) pe_str (nomark _)) pe_int (pe_ifExp (pt_cmpR op_eq (pv 4) pe_str (nomark _)) (pe_un un_neg pe_int) pe_int))))
          (pss_one (ps_if (PW.pt (pw_and (pt_cmpR op_eq (pv 4) pe_str (nomark _)) (pw_and1 (pt_cmpR op_eq (pv 1) pe_int (nomark _)))))
            (pss_one (ps_expr (pe_bm PySem.F.plainAttrs_list PySem.F.slot_list_append PySem.F.type_list_append mt_append (pv 2) (pa_cons (pv 3) pa_nil))))
            pss_nil))))
      (pss_one (ps_ret (pe_ifExp (pt_cmpR op_eq (pe_callB call_len (by rfl) B.len (by decide +kernel) (pa_cons (pv 2) pa_nil)) pe_int (nomark _)) (pe_ix ix_list (pv 2) pe_int (fun _ _ => rfl)) (pe_un un_neg pe_int)))))), ?_⟩
  refine ⟨(by decide), fun L hL => ?_⟩
  have e0 := Same.new (o := .lst []) hL
  refine ⟨_, _, rfl, _, rfl, _, rfl, for_it (walk_enumS (x := st l)) (fun i σ H' => ∃ x3 x4 : Option V, σ = [some (.str (st l)), some (.int (depL (l.take i))), some (.ref L), x3, x4] ∧ Same H H' ∧ H' L = some (.lst ((commas 0 0 (l.take i)).map fun k => V.int (k : Nat))))
    ⟨none, none, rfl, e0, upd_same⟩ (fun i σ H' _ h => trivial) (fun i x σ H' H'' hi h hy => ?_) (fun σ H' h => ?_)⟩
  · obtain ⟨x3, x4, rfl, e, hl⟩ := h
    obtain ⟨T, y1, y2, rfl, hT, rfl, hy1, hy2⟩ := hy
    cases hy1
    refine ⟨T, _, rfl, SqT.of upd_same, rfl, _, _, rfl, _, _, rfl, rfl, ?_⟩
    obtain ⟨c, hc, rfl⟩ : ∃ c, l[i]? = some c ∧ y2 = .str (st [c]) := by
      have hy2 : ((st l).cps[i]?.map fun c => V.str ⟨#[c]⟩) = some y2 := hy2
      rw [show (st l).cps[i]? = l[i]? from List.getElem?_toArray ..] at hy2
      cases hc : l[i]? with
      | none => rw [hc] at hy2; cases hy2
      | some c => rw [hc] at hy2; exact ⟨c, rfl, (Option.some.inj hy2).symm⟩
    have ht : l.take (i + 1) = l.take i ++ [c] := by rw [List.take_succ, hc]; rfl
    have hdep : depL (l.take (i + 1)) = depL (l.take i) + step40 c := by rw [ht, depL_snoc]
    have hcom : commas 0 0 (l.take (i + 1)) = commas 0 0 (l.take i) ++ (if c = 44 ∧ depL (l.take i) + step40 c = 0 then [i] else []) := by
      have hil : i < l.length := by
        rcases Nat.lt_or_ge i l.length with z | z
        · exact z
        · rw [List.getElem?_eq_none z] at hc; cases hc
      rw [ht, commas_snoc, Int.zero_add, Nat.zero_add, List.length_take, Nat.min_eq_left (Nat.le_of_lt hil)]
    have e1 := e.trans (Same.new (o := .tup [.int (i : Nat), .str (st [c])]) hT)
    have hl1 : (upd H' T (.tup [.int (i : Nat), .str (st [c])])) L = some (.lst ((commas 0 0 (l.take i)).map fun k => V.int (k : Nat))) := by rw [upd_ne (ne_of_none hl hT)]; exact hl
    rw [hdep, hcom]
    refine ⟨_, rfl, _, rfl, rfl, _, rfl, ?_⟩
    rw [lit_open, sign_dec]
    by_cases h40 : c = 40
    · subst h40
      refine iteT ⟨_, _, rfl, rfl, ?_⟩
      refine ⟨_, rfl, rfl, _, rfl, ?_⟩
      rw [lit_comma, sign_dec]
      rw [if_neg (show ¬ ((40 : Nat) = 44 ∧ _) from fun z => by cases z.1), List.append_nil]
      exact iteF (iteF ⟨_, _, rfl, e1, hl1⟩)
    rw [decide_eq_false h40]
    refine iteF ⟨_, rfl, rfl, _, rfl, ?_⟩
    rw [lit_close, sign_dec]
    by_cases h41 : c = 41
    · subst h41
      refine iteT ⟨_, rfl, _, _, rfl, rfl, ?_⟩
      refine ⟨_, rfl, rfl, _, rfl, ?_⟩
      rw [lit_comma, sign_dec]
      rw [if_neg (show ¬ ((41 : Nat) = 44 ∧ _) from fun z => by cases z.1), List.append_nil]
      exact iteF (iteF ⟨_, _, rfl, e1, hl1⟩)
    rw [decide_eq_false h41]
    have e40 : step40 c = 0 := by unfold step40; rw [if_neg h40, if_neg h41]
    rw [e40]
    refine iteF ⟨_, _, rfl, rfl, ?_⟩
    refine ⟨_, rfl, rfl, _, rfl, ?_⟩
    rw [lit_comma, sign_dec]
    by_cases h44 : c = 44
    · rw [decide_eq_true h44]
      refine iteT ⟨_, rfl, rfl, _, rfl, ?_⟩
      by_cases h0 : depL (l.take i) + 0 = 0
      · rw [decide_eq_true (show V.int (depL (l.take i) + 0) = V.int 0 by rw [h0]), if_pos ⟨h44, h0⟩]
        refine iteT ⟨_, rfl, .inl ⟨rfl, _, SqL.of hl1⟩, _, rfl, L, _, _, rfl, rfl, hl1, ?_, ?_⟩
        · rw [List.length_map]
          have := commas_len (l.take i) 0 0
          have := List.length_take_le' i l
          exact Nat.lt_of_lt_of_le (show _ < 201 by omega) (by decide)
        · exact ⟨_, _, rfl, Same.mut e1 hL, by rw [upd_same, List.map_append]; rfl⟩
      · rw [decide_eq_false (show ¬ V.int (depL (l.take i) + 0) = V.int 0 from fun z => h0 (by injection z)), if_neg (fun z => h0 z.2), List.append_nil]
        exact iteF ⟨_, _, rfl, e1, hl1⟩
    · rw [decide_eq_false h44, if_neg (fun z => h44 z.1), List.append_nil]
      exact iteF (iteF ⟨_, _, rfl, e1, hl1⟩)
  · obtain ⟨x3, x4, rfl, e, hl⟩ := h
    have ez : l.take (st l).cps.size = l := List.take_of_length_le (by show l.length ≤ l.toArray.size; rw [List.size_toArray]; exact Nat.le_refl _)
    rw [ez] at hl
    have hq := hQ H' e
    have hcl := commas_len l 0 0
    refine ⟨_, rfl, _, _, rfl, .inl ⟨_, SqL.of hl, rfl⟩, rfl, _, rfl, ?_⟩
    rw [List.length_map]
    by_cases h1 : (commas 0 0 l).length = 1
    · obtain ⟨k, hk⟩ := List.length_eq_one_iff.mp h1
      rw [decide_eq_true (show V.int ((commas 0 0 l).length : Nat) = V.int 1 by rw [h1]; rfl)]
      rw [hk] at hl
      have hi : commaI l = (k : Int) := by unfold commaI commaL; rw [hk]
      rw [hi] at hq
      exact iteT ⟨_, rfl, L, _, _, _, rfl, rfl, SqL.of hl, rfl, hq⟩
    · rw [decide_eq_false (show ¬ V.int ((commas 0 0 l).length : Nat) = V.int 1 from fun z => h1 (by injection z with z; omega))]
      have hi : commaI l = -1 := by
        unfold commaI commaL
        split
        · rename_i z
          split at z
          · rename_i z2; rw [z2] at h1; exact absurd rfl h1
          · cases z
        · rfl
      rw [hi] at hq
      exact iteF ⟨_, rfl, hq⟩
end
end Bc
set_option Elab.async false
set_option linter.all false
set_option maxRecDepth 100000
set_option maxHeartbeats 4000000
set_option pp.maxSteps 700
namespace Bc
open PySem PySem.Spec PyProof.Rows L2
theorem st_app (a b : List Nat) : st a ++ st b = st (a ++ b) := by
  show (⟨a.toArray ++ b.toArray⟩ : Str) = ⟨(a ++ b).toArray⟩
  simp
theorem str_len (a b : Str) : (a ++ b).length = a.length + b.length := by show (a.cps ++ b.cps).size = _; rw [Array.size_append]; rfl
theorem join1 (a : List Nat) : Txt.join "," [st a] = st a := by rw [TL.join_eq]; rfl
theorem join2 (a b : List Nat) : Txt.join "," [st a, st b] = st (a ++ 44 :: b) := by
  rw [TL.join_eq]
  show st a ++ "," ++ st b = _
  rw [lit_comma, st_app, st_app, List.append_assoc]
  rfl
theorem lit_abs : ("abs" : Str) = st [97, 98, 115] := by decide +kernel
theorem lit_x : ("x" : Str) = st [120] := by decide +kernel
theorem wl_abs (a : Cv) : "abs" ++ "(" ++ Txt.join "," [st (wl a)] ++ ")" = st (wl (.abs a)) := by
  rw [join1, lit_abs, lit_open, lit_close, st_app, st_app, st_app, List.append_assoc, List.append_assoc]
  rfl
theorem wl_bin (k : Kd) (a b : Cv) : k.s ++ "(" ++ Txt.join "," [st (wl a), st (wl b)] ++ ")" = st (wl (.bin k a b)) := by
  rw [join2, ← Kd.st_l, lit_open, lit_close, st_app, st_app, st_app, List.append_assoc, List.append_assoc]
  rfl
theorem kd_slen (k : Kd) : k.s.length ≤ 5 := by cases k <;> decide +kernel
theorem wl120 {c : Cv} (h : c.size ≤ 15) (h9 : c.in9 = true) : (wl c).length ≤ 120 := by have := wl_len c h9; omega
theorem strs_map {f : Cv → Str} {ys : List V} {l : List Cv} (hl : ys.length = l.length) (h : ∀ (j : Nat) y, ys[j]? = some y → ∃ e, l[j]? = some e ∧ y = .str (f e)) : ys = (l.map f).map V.str := by
  rw [List.map_map]
  refine vals_map hl fun j x y hx hy => ?_
  obtain ⟨e, h1, h2⟩ := h j y hy
  rw [hx] at h1
  cases h1
  exact h2
theorem Cv.args_in9 {c e : Cv} (h : c.in9 = true) (he : e ∈ c.args) : e.in9 = true := by
  cases c with
  | num n => cases he
  | x => cases he
  | abs a => cases List.mem_singleton.mp he; exact h
  | bin k a b =>
    have h := Bool.and_eq_true_iff.mp h
    rcases List.mem_cons.mp he with z | z
    · rw [z]; exact h.1
    · cases List.mem_singleton.mp z; exact h.2
theorem in9_log {n : Int} (h : (Cv.num n).in9 = true) : n.natAbs.log2 < 1920 := by
  obtain ⟨h1, h2⟩ := in9_num h
  exact Nat.lt_of_le_of_lt (Nat.log2_le_self _) (by omega)
def spWr (K : PySem.W.Frag) (n : Nat) : Sp := fun vs H Q _ => ∃ (v : V) (c : Cv), vs = [v] ∧ Dp K H v c.d ∧ c.depth ≤ n ∧ c.size ≤ 15 ∧ c.in9 = true ∧ ∀ H', Same H H' → Q (.str (st (wl c))) H'
section
variable {P : Program} {w : World} {K : PySem.W.Frag} {mg : Str → Option Value} {base : Heap}
theorem sc_written : FnScope ["curve", "part"] ["curve"] (defScope s_written) := ⟨rfl, rfl, rfl, by decide +kernel, rfl, by decide +kernel, by decide +kernel⟩
theorem c_written (B : Blt mg) (F : DefAt K mg "written" s_written) : ∀ n, Cal P w K mg base CX0 (n + 2) "written" ["curve"] (spWr K n) := by
  intro n
  induction n with
  | zero =>
    obtain ⟨⟨fd, F⟩, gl⟩ := F
    refine cal_of0 F gl sc_written (fun _ _ _ _ _ _ us hl => match us, hl with | [_], _ => rfl) (fun vs H Q E h => by obtain ⟨a, _, rfl, _⟩ := h; rfl) (fun cdv A outer s H vs Q E hr h => ?_)
    obtain ⟨v, c, rfl, hd, hn, _⟩ := h
    exact absurd hn (Nat.not_le.mpr c.depth_pos)
  | succ n c_written =>
    obtain ⟨⟨fd, F⟩, gl⟩ := F
    refine cal_of0 F gl sc_written (fun _ _ _ _ _ _ us hl => match us, hl with | [_], _ => rfl) (fun vs H Q E h => by obtain ⟨a, _, rfl, _⟩ := h; rfl) (fun cdv A outer s H vs Q E hr h => ?_)
    obtain ⟨v, c, rfl, hd, hn, hz, h9, hq⟩ := h
    refine ⟨_, (pss_cons (ps_if (pt_cmpR op_in_seq (pe_ix ix_tup (pv 0) pe_int (fun _ _ => rfl)) (pe_tup (pa_cons pe_str (pa_cons pe_str pa_nil))) (by rfl))
        (pss_one (ps_ret (pe_ifExp (pt_cmpR op_eq (pe_ix ix_tup (pv 0) pe_int (fun _ _ => rfl)) pe_str (nomark _)) pe_str (pe_callTy call_str_int (by rfl) B.str (by decide +kernel) (pa_cons (pe_ix ix_tup (pv 0) pe_int (fun _ _ => rfl)) pa_nil)))))
        pss_nil)
      (pss_one (ps_ret (pe_op op_add_str (pe_op op_add_str (pe_op op_add_str (pe_ix ix_tup (pv 0) pe_int (fun _ _ => rfl)) pe_str) (pe_bm PySem.F.plainAttrs_str PySem.F.slot_str_join PySem.F.type_str_join mt_join pe_str (pa_cons (pe_lc (own := [("part", 1)]) (g := gName 1) (tt := tYes) rfl sc_written.nd (pi_tup (pe_slice sl_tupA (pv 0) (po_some pe_int) po_none)) (blkOk_by (own := [("part", 1)]) (N := ["curve", "part"]) (sc := defScope s_written) (by decide +kernel)) (fun _ _ _ _ _ => pg_name (i := 1) sc_written.nd rfl (Or.inl rfl)) (fun _ _ _ _ _ => pts_nil) (fun _ _ _ _ _ => (pe_c c_written (hr.mono (by omega)) pass0 (pa_cons (pv 1) pa_nil)))) pa_nil))) pe_str)))), ?_⟩
    cases c with
    | num i =>
      obtain ⟨a, rfl, ht⟩ := dp_num hd
      refine ⟨_, rfl, a, _, _, _, rfl, rfl, ht, rfl, sz2, fun p hp => ⟨p, _, rfl, .inr (SqT.of upd_same), rfl, rfl, _, rfl, in_t leaf_in.1 ?_⟩⟩
      have e1 := Same.new (o := .tup [.str "num", .str "x"]) hp
      refine ⟨_, rfl, a, _, _, _, rfl, rfl, ex_t e1 ht, rfl, rfl, _, rfl, iteF ⟨_, rfl, a, _, _, _, rfl, rfl, ex_t e1 ht, rfl, _, rfl, in9_log h9, ?_⟩⟩
      exact hq _ e1
    | x =>
      obtain ⟨a, rfl, ht⟩ := dp_x hd
      refine ⟨_, rfl, a, _, _, _, rfl, rfl, ht, rfl, sz2, fun p hp => ⟨p, _, rfl, .inr (SqT.of upd_same), rfl, rfl, _, rfl, in_t leaf_in.2.1 ?_⟩⟩
      have e1 := Same.new (o := .tup [.str "num", .str "x"]) hp
      refine ⟨_, rfl, a, _, _, _, rfl, rfl, ex_t e1 ht, rfl, rfl, _, rfl, iteT ?_⟩
      have := hq _ e1
      rw [show wl .x = [120] from rfl, ← lit_x] at this
      exact this
    | abs c =>
      obtain ⟨a, u, rfl, ht, hu⟩ := dp_abs hd
      refine ⟨_, rfl, a, _, _, _, rfl, rfl, ht, rfl, sz2, fun p hp => ⟨p, _, rfl, .inr (SqT.of upd_same), rfl, rfl, _, rfl, in_f leaf_in.2.2.1 ?_⟩⟩
      have e1 := Same.new (o := .tup [.str "num", .str "x"]) hp
      have hw : DpAll K H [u] ([c].map Cv.d) := .cons hu .nil
      have hks : (("abs" : Str)).length ≤ 5 := by decide +kernel
      have hol : ("(" : Str).length = 1 := by decide +kernel
      refine ⟨_, rfl, a, _, _, _, rfl, rfl, ex_t e1 ht, rfl, _, _, rfl, rfl, Nat.le_trans (show _ ≤ 6 by omega) (by decide), rfl, _, rfl, 1, rfl, a, _, rfl, ex_t e1 ht, (fun z => absurd (show HT.sIx 2 0 (some 1) = 0 from z.1) (by decide)), fun _ p2 hp2 => ⟨p2, rfl, ⟨_, SqT.of upd_same⟩, fun D hD => ?_⟩⟩
      have e2 := e1.trans (Same.new (o := .tup [u]) hp2)
      refine lc_tupR (K := K) (xs := [u]) (fun j y _ => ∃ e, [c][j]? = some e ∧ y = .str (st (wl e))) (fun _ _ _ _ h _ => h) (fun _ _ _ _ _ _ h => h) hD (SqT.of upd_same) (Nat.le_trans (by show 1 ≤ 2; decide) sz2) (fun j x hx H2 e3 Q2 q2 => ?_) (fun ys H2 e3 hD2 hy hr2 => ?_)
      · obtain ⟨e, he, hxe⟩ := dpall_at hw hx
        have hm : e ∈ (Cv.abs c).args := List.mem_of_getElem? he
        exact ⟨_, rfl, x, e, rfl, Dp.ex (e2.trans e3) hxe, Cv.args_depth hn hm, Cv.args_size hz hm, Cv.args_in9 h9 hm, fun H3 e4 => q2 _ _ e4 ⟨e, he, rfl⟩⟩
      · have ey := strs_map (f := fun e : Cv => st (wl e)) (l := [c]) (hy.trans rfl) hr2
        have z := hq _ (e2.trans e3)
        rw [← wl_abs] at z
        have b1 := wl120 (Cv.args_size hz (List.mem_singleton.mpr rfl : c ∈ (Cv.abs c).args)) (Cv.args_in9 h9 (List.mem_singleton.mpr rfl : c ∈ (Cv.abs c).args))
        have b2 := 0
        have hcl : ("," : Str).length = 1 := by decide +kernel
        have hrl : (")" : Str).length = 1 := by decide +kernel
        have hjl : (Txt.join "," [st (wl c)]).length ≤ 241 := by rw [join1, st_len]; omega
        have hko : (("abs" : Str) ++ ("(" : Str)).length ≤ 6 := by rw [str_len]; omega
        refine ⟨_, D, [st (wl c)], rfl, rfl, .inl (SqL.of (by rw [hD2, ey]; rfl)), ?_, _, _, rfl, rfl, Nat.le_trans (show _ ≤ 247 by omega) (by decide), _, _, rfl, rfl, Nat.le_trans (show _ ≤ 248 by rw [str_len]; omega) (by decide), z⟩
        show (st (wl c)).length + 0 + 1 * ("," : Str).length ≤ 16777216
        rw [st_len, hcl]
        omega
    | bin k c1 c2 =>
      obtain ⟨a, u1, u2, rfl, ht, hu1, hu2⟩ := dp_bin hd
      refine ⟨_, rfl, a, _, _, _, rfl, rfl, ht, rfl, sz2, fun p hp => ⟨p, _, rfl, .inr (SqT.of upd_same), rfl, rfl, _, rfl, in_f (leaf_in.2.2.2 k) ?_⟩⟩
      have e1 := Same.new (o := .tup [.str "num", .str "x"]) hp
      have hw : DpAll K H [u1, u2] ([c1, c2].map Cv.d) := .cons hu1 (.cons hu2 .nil)
      have hks : (k.s).length ≤ 5 := kd_slen k
      have hol : ("(" : Str).length = 1 := by decide +kernel
      refine ⟨_, rfl, a, _, _, _, rfl, rfl, ex_t e1 ht, rfl, _, _, rfl, rfl, Nat.le_trans (show _ ≤ 6 by omega) (by decide), rfl, _, rfl, 1, rfl, a, _, rfl, ex_t e1 ht, (fun z => absurd (show HT.sIx 3 0 (some 1) = 0 from z.1) (by decide)), fun _ p2 hp2 => ⟨p2, rfl, ⟨_, SqT.of upd_same⟩, fun D hD => ?_⟩⟩
      have e2 := e1.trans (Same.new (o := .tup [u1, u2]) hp2)
      refine lc_tupR (K := K) (xs := [u1, u2]) (fun j y _ => ∃ e, [c1, c2][j]? = some e ∧ y = .str (st (wl e))) (fun _ _ _ _ h _ => h) (fun _ _ _ _ _ _ h => h) hD (SqT.of upd_same) (Nat.le_trans (by show 2 ≤ 2; decide) sz2) (fun j x hx H2 e3 Q2 q2 => ?_) (fun ys H2 e3 hD2 hy hr2 => ?_)
      · obtain ⟨e, he, hxe⟩ := dpall_at hw hx
        have hm : e ∈ (Cv.bin k c1 c2).args := List.mem_of_getElem? he
        exact ⟨_, rfl, x, e, rfl, Dp.ex (e2.trans e3) hxe, Cv.args_depth hn hm, Cv.args_size hz hm, Cv.args_in9 h9 hm, fun H3 e4 => q2 _ _ e4 ⟨e, he, rfl⟩⟩
      · have ey := strs_map (f := fun e : Cv => st (wl e)) (l := [c1, c2]) (hy.trans rfl) hr2
        have z := hq _ (e2.trans e3)
        rw [← wl_bin] at z
        have b1 := wl120 (Cv.args_size hz (List.mem_cons_self .. : c1 ∈ (Cv.bin k c1 c2).args)) (Cv.args_in9 h9 (List.mem_cons_self .. : c1 ∈ (Cv.bin k c1 c2).args))
        have b2 := wl120 (Cv.args_size hz (List.mem_cons_of_mem _ (List.mem_singleton.mpr rfl) : c2 ∈ (Cv.bin k c1 c2).args)) (Cv.args_in9 h9 (List.mem_cons_of_mem _ (List.mem_singleton.mpr rfl) : c2 ∈ (Cv.bin k c1 c2).args))
        have hcl : ("," : Str).length = 1 := by decide +kernel
        have hrl : (")" : Str).length = 1 := by decide +kernel
        have hjl : (Txt.join "," [st (wl c1), st (wl c2)]).length ≤ 241 := by rw [join2, st_len, List.length_append, List.length_cons]; omega
        have hko : (k.s ++ ("(" : Str)).length ≤ 6 := by rw [str_len]; omega
        refine ⟨_, D, [st (wl c1), st (wl c2)], rfl, rfl, .inl (SqL.of (by rw [hD2, ey]; rfl)), ?_, _, _, rfl, rfl, Nat.le_trans (show _ ≤ 247 by omega) (by decide), _, _, rfl, rfl, Nat.le_trans (show _ ≤ 248 by rw [str_len]; omega) (by decide), z⟩
        show (st (wl c1)).length + ((st (wl c2)).length + 0) + 2 * ("," : Str).length ≤ 16777216
        rw [st_len, st_len, hcl]
        omega
theorem sc__law_text : FnScope ["curve", "one"] ["curve"] (defScope s__law_text) := ⟨rfl, rfl, rfl, by decide +kernel, rfl, by decide +kernel, by decide +kernel⟩
theorem kd_nx (k : Kd) : decide (V.str k.s = V.str "x") = false ∧ decide (V.str k.s = V.str "num") = false := by cases k <;> exact ⟨by decide +kernel, by decide +kernel⟩
theorem abs_nx : decide (V.str "abs" = V.str "x") = false ∧ decide (V.str "abs" = V.str "num") = false := ⟨by decide +kernel, by decide +kernel⟩
theorem c__law_text (B : Blt mg) (F : DefAt K mg "_law_text" s__law_text) : ∀ n, Cal P w K mg base CX0 (n + 2) "_law_text" ["curve"] (spWr K n) := by
  intro n
  induction n with
  | zero =>
    obtain ⟨⟨fd, F⟩, gl⟩ := F
    refine cal_of0 F gl sc__law_text (fun _ _ _ _ _ _ us hl => match us, hl with | [_], _ => rfl) (fun vs H Q E h => by obtain ⟨a, _, rfl, _⟩ := h; rfl) (fun cdv A outer s H vs Q E hr h => ?_)
    obtain ⟨v, c, rfl, hd, hn, _⟩ := h
    exact absurd hn (Nat.not_le.mpr c.depth_pos)
  | succ n c__law_text =>
    obtain ⟨⟨fd, F⟩, gl⟩ := F
    refine cal_of0 F gl sc__law_text (fun _ _ _ _ _ _ us hl => match us, hl with | [_], _ => rfl) (fun vs H Q E h => by obtain ⟨a, _, rfl, _⟩ := h; rfl) (fun cdv A outer s H vs Q E hr h => ?_)
    obtain ⟨v, c, rfl, hd, hn, hz, h9, hq⟩ := h
    refine ⟨_, (pss_cons (ps_if (pt_cmpR op_eq (pe_ix ix_tup (pv 0) pe_int (fun _ _ => rfl)) pe_str (nomark _))
        (pss_one (ps_ret pe_str))
        pss_nil)
      (pss_cons (ps_if (pt_cmpR op_eq (pe_ix ix_tup (pv 0) pe_int (fun _ _ => rfl)) pe_str (nomark _))
        (pss_one (ps_ret (pe_callTy call_str_int (by rfl) B.str (by decide +kernel) (pa_cons (pe_ix ix_tup (pv 0) pe_int (fun _ _ => rfl)) pa_nil))))
        pss_nil)
      (pss_one (ps_ret (pe_op op_add_str (pe_op op_add_str (pe_op op_add_str (pe_ix ix_tup (pv 0) pe_int (fun _ _ => rfl)) pe_str) (pe_bm PySem.F.plainAttrs_str PySem.F.slot_str_join PySem.F.type_str_join mt_join pe_str (pa_cons (pe_lc (own := [("one", 1)]) (g := gName 1) (tt := tYes) rfl sc__law_text.nd (pi_tup (pe_slice sl_tupA (pv 0) (po_some pe_int) po_none)) (blkOk_by (own := [("one", 1)]) (N := ["curve", "one"]) (sc := defScope s__law_text) (by decide +kernel)) (fun _ _ _ _ _ => pg_name (i := 1) sc__law_text.nd rfl (Or.inl rfl)) (fun _ _ _ _ _ => pts_nil) (fun _ _ _ _ _ => (pe_c c__law_text (hr.mono (by omega)) pass0 (pa_cons (pv 1) pa_nil)))) pa_nil))) pe_str))))), ?_⟩
    have e1 : Same H H := Same.refl _
    cases c with
    | num i =>
      obtain ⟨a, rfl, ht⟩ := dp_num hd
      refine ⟨_, rfl, a, _, _, _, rfl, rfl, ht, rfl, rfl, _, rfl, iteF ⟨_, rfl, a, _, _, _, rfl, rfl, ht, rfl, rfl, _, rfl, iteT ⟨_, rfl, a, _, _, _, rfl, rfl, ht, rfl, _, rfl, in9_log h9, ?_⟩⟩⟩
      exact hq _ e1
    | x =>
      obtain ⟨a, rfl, ht⟩ := dp_x hd
      refine ⟨_, rfl, a, _, _, _, rfl, rfl, ht, rfl, rfl, _, rfl, iteT ?_⟩
      have := hq _ e1
      rw [show wl .x = [120] from rfl, ← lit_x] at this
      exact this
    | abs c =>
      obtain ⟨a, u, rfl, ht, hu⟩ := dp_abs hd
      refine ⟨_, rfl, a, _, _, _, rfl, rfl, ht, rfl, rfl, _, rfl, ?_⟩
      rw [abs_nx.1]
      refine iteF ⟨_, rfl, a, _, _, _, rfl, rfl, ht, rfl, rfl, _, rfl, ?_⟩
      rw [abs_nx.2]
      refine iteF ?_
      have hw : DpAll K H [u] ([c].map Cv.d) := .cons hu .nil
      have hks : (("abs" : Str)).length ≤ 5 := by decide +kernel
      have hol : ("(" : Str).length = 1 := by decide +kernel
      refine ⟨_, rfl, a, _, _, _, rfl, rfl, ex_t e1 ht, rfl, _, _, rfl, rfl, Nat.le_trans (show _ ≤ 6 by omega) (by decide), rfl, _, rfl, 1, rfl, a, _, rfl, ex_t e1 ht, (fun z => absurd (show HT.sIx 2 0 (some 1) = 0 from z.1) (by decide)), fun _ p2 hp2 => ⟨p2, rfl, ⟨_, SqT.of upd_same⟩, fun D hD => ?_⟩⟩
      have e2 := e1.trans (Same.new (o := .tup [u]) hp2)
      refine lc_tupR (K := K) (xs := [u]) (fun j y _ => ∃ e, [c][j]? = some e ∧ y = .str (st (wl e))) (fun _ _ _ _ h _ => h) (fun _ _ _ _ _ _ h => h) hD (SqT.of upd_same) (Nat.le_trans (by show 1 ≤ 2; decide) sz2) (fun j x hx H2 e3 Q2 q2 => ?_) (fun ys H2 e3 hD2 hy hr2 => ?_)
      · obtain ⟨e, he, hxe⟩ := dpall_at hw hx
        have hm : e ∈ (Cv.abs c).args := List.mem_of_getElem? he
        exact ⟨_, rfl, x, e, rfl, Dp.ex (e2.trans e3) hxe, Cv.args_depth hn hm, Cv.args_size hz hm, Cv.args_in9 h9 hm, fun H3 e4 => q2 _ _ e4 ⟨e, he, rfl⟩⟩
      · have ey := strs_map (f := fun e : Cv => st (wl e)) (l := [c]) (hy.trans rfl) hr2
        have z := hq _ (e2.trans e3)
        rw [← wl_abs] at z
        have b1 := wl120 (Cv.args_size hz (List.mem_singleton.mpr rfl : c ∈ (Cv.abs c).args)) (Cv.args_in9 h9 (List.mem_singleton.mpr rfl : c ∈ (Cv.abs c).args))
        have b2 := 0
        have hcl : ("," : Str).length = 1 := by decide +kernel
        have hrl : (")" : Str).length = 1 := by decide +kernel
        have hjl : (Txt.join "," [st (wl c)]).length ≤ 241 := by rw [join1, st_len]; omega
        have hko : (("abs" : Str) ++ ("(" : Str)).length ≤ 6 := by rw [str_len]; omega
        refine ⟨_, D, [st (wl c)], rfl, rfl, .inl (SqL.of (by rw [hD2, ey]; rfl)), ?_, _, _, rfl, rfl, Nat.le_trans (show _ ≤ 247 by omega) (by decide), _, _, rfl, rfl, Nat.le_trans (show _ ≤ 248 by rw [str_len]; omega) (by decide), z⟩
        show (st (wl c)).length + 0 + 1 * ("," : Str).length ≤ 16777216
        rw [st_len, hcl]
        omega
    | bin k c1 c2 =>
      obtain ⟨a, u1, u2, rfl, ht, hu1, hu2⟩ := dp_bin hd
      refine ⟨_, rfl, a, _, _, _, rfl, rfl, ht, rfl, rfl, _, rfl, ?_⟩
      rw [(kd_nx k).1]
      refine iteF ⟨_, rfl, a, _, _, _, rfl, rfl, ht, rfl, rfl, _, rfl, ?_⟩
      rw [(kd_nx k).2]
      refine iteF ?_
      have hw : DpAll K H [u1, u2] ([c1, c2].map Cv.d) := .cons hu1 (.cons hu2 .nil)
      have hks : (k.s).length ≤ 5 := kd_slen k
      have hol : ("(" : Str).length = 1 := by decide +kernel
      refine ⟨_, rfl, a, _, _, _, rfl, rfl, ex_t e1 ht, rfl, _, _, rfl, rfl, Nat.le_trans (show _ ≤ 6 by omega) (by decide), rfl, _, rfl, 1, rfl, a, _, rfl, ex_t e1 ht, (fun z => absurd (show HT.sIx 3 0 (some 1) = 0 from z.1) (by decide)), fun _ p2 hp2 => ⟨p2, rfl, ⟨_, SqT.of upd_same⟩, fun D hD => ?_⟩⟩
      have e2 := e1.trans (Same.new (o := .tup [u1, u2]) hp2)
      refine lc_tupR (K := K) (xs := [u1, u2]) (fun j y _ => ∃ e, [c1, c2][j]? = some e ∧ y = .str (st (wl e))) (fun _ _ _ _ h _ => h) (fun _ _ _ _ _ _ h => h) hD (SqT.of upd_same) (Nat.le_trans (by show 2 ≤ 2; decide) sz2) (fun j x hx H2 e3 Q2 q2 => ?_) (fun ys H2 e3 hD2 hy hr2 => ?_)
      · obtain ⟨e, he, hxe⟩ := dpall_at hw hx
        have hm : e ∈ (Cv.bin k c1 c2).args := List.mem_of_getElem? he
        exact ⟨_, rfl, x, e, rfl, Dp.ex (e2.trans e3) hxe, Cv.args_depth hn hm, Cv.args_size hz hm, Cv.args_in9 h9 hm, fun H3 e4 => q2 _ _ e4 ⟨e, he, rfl⟩⟩
      · have ey := strs_map (f := fun e : Cv => st (wl e)) (l := [c1, c2]) (hy.trans rfl) hr2
        have z := hq _ (e2.trans e3)
        rw [← wl_bin] at z
        have b1 := wl120 (Cv.args_size hz (List.mem_cons_self .. : c1 ∈ (Cv.bin k c1 c2).args)) (Cv.args_in9 h9 (List.mem_cons_self .. : c1 ∈ (Cv.bin k c1 c2).args))
        have b2 := wl120 (Cv.args_size hz (List.mem_cons_of_mem _ (List.mem_singleton.mpr rfl) : c2 ∈ (Cv.bin k c1 c2).args)) (Cv.args_in9 h9 (List.mem_cons_of_mem _ (List.mem_singleton.mpr rfl) : c2 ∈ (Cv.bin k c1 c2).args))
        have hcl : ("," : Str).length = 1 := by decide +kernel
        have hrl : (")" : Str).length = 1 := by decide +kernel
        have hjl : (Txt.join "," [st (wl c1), st (wl c2)]).length ≤ 241 := by rw [join2, st_len, List.length_append, List.length_cons]; omega
        have hko : (k.s ++ ("(" : Str)).length ≤ 6 := by rw [str_len]; omega
        refine ⟨_, D, [st (wl c1), st (wl c2)], rfl, rfl, .inl (SqL.of (by rw [hD2, ey]; rfl)), ?_, _, _, rfl, rfl, Nat.le_trans (show _ ≤ 247 by omega) (by decide), _, _, rfl, rfl, Nat.le_trans (show _ ≤ 248 by rw [str_len]; omega) (by decide), z⟩
        show (st (wl c1)).length + ((st (wl c2)).length + 0) + 2 * ("," : Str).length ≤ 16777216
        rw [st_len, st_len, hcl]
        omega
end
end Bc
set_option Elab.async false
set_option linter.all false
set_option maxRecDepth 100000
set_option maxHeartbeats 4000000
set_option pp.maxSteps 700
namespace Bc
open PySem PySem.Spec PyProof.Rows L2
theorem pss_dead {X : Cx} {ss : List Stmt} : PSs X ss (fun _ _ _ => False) := ⟨fun _ _ _ _ _ _ h => h.elim⟩
theorem ok_size {c : Cv} (h : c.ok = true) : c.size ≤ 15 := of_decide_eq_true (Bool.and_eq_true_iff.mp h).1
theorem kind_in (t : List Nat) : inV (V.str (st t)) ([V.str "sum", V.str "times", V.str "max", V.str "min", V.str "into"] ++ [V.str "abs"]) = ((kdOf (st t)).isSome || decide (t = [97, 98, 115])) := by
  have e : inV (V.str (st t)) ([V.str "sum", V.str "times", V.str "max", V.str "min", V.str "into"] ++ [V.str "abs"]) = (inV (V.str (st t)) [V.str "sum", V.str "times", V.str "max", V.str "min", V.str "into"] || (("abs" : Str) == st t)) := by
    unfold inV
    rw [List.any_append]
    congr 1
    show (("abs" : Str) == st t || false) = _
    rw [Bool.or_false]
  rw [e, pairs_in, lit_abs]
  congr 1
  by_cases h : t = [97, 98, 115]
  · rw [h, decide_eq_true rfl]; exact beq_self_eq_true _
  · rw [decide_eq_false h]; exact beq_eq_false_iff_ne.mpr fun z => h (st_inj z).symm
theorem last_of {l : List Nat} (h : 40 ∈ l) : ∃ c, atI l (-1) = some c ∧ l.getLast? = some c := by
  rcases List.eq_nil_or_concat l with z | ⟨a, c, z⟩
  · rw [z] at h; cases h
  · refine ⟨c, ?_, ?_⟩
    · rw [z, List.concat_eq_append]; exact atI_last a c
    · rw [z, List.concat_eq_append, List.getLast?_concat]
section
variable {P : Program} {w : World} {K : PySem.W.Frag} {mg : Str → Option Value} {base : Heap}
theorem sc_format_curve : FnScope ["curve"] ["curve"] (defScope s_format_curve) := ⟨rfl, rfl, rfl, by decide +kernel, rfl, by decide +kernel, by decide +kernel⟩
def gWr (c : Cv) (H : Hp) (Q : VK) : Prop := ∀ H', Same H H' → Q (.str (st (wl c))) H'
theorem c_format_curve (F : DefAt K mg "format_curve" s_format_curve) (c_need_curve : Cal P w K mg base (CX P w) 20 "need_curve" ["curve"] (spNeed K)) (c_wr : ∀ n, Cal P w K mg base CX0 (n + 2) "written" ["curve"] (spWr K n)) : Cal P w K mg base (CX P w) 26 "format_curve" ["curve"] (pub1 K gWr) := by
  obtain ⟨⟨fd, F⟩, gl⟩ := F
  have c_written := c_wr 15
  refine cal_of F gl sc_format_curve (fun _ _ _ _ _ _ us hl => match us, hl with | [_], _ => rfl) (fun vs H Q E h => pub1_len h) (fun cdv A outer s H vs Q E hr h => ?_)
  obtain ⟨v, d, rfl, hd, hs, hn, hc⟩ := h
  refine ⟨_, (pss_cons (ps_expr (pe_c c_need_curve (hr.mono (by omega)) (L2N.passes_call (L2N.takes_of rfl rfl rfl rfl) (fun _ _ _ _ h => h)) (pa_cons (pv 0) pa_nil)))
      (PSs.nox (pss_one (ps_ret (pe_c c_written (hr.mono (by omega)) pass0 (pa_cons (pv 0) pa_nil)))))), ?_⟩
  refine ⟨_, rfl, v, d, rfl, hd, hs, fun hm H1 e1 => ?_, hn⟩
  obtain ⟨c, rfl, h9, hok, hdep⟩ := isCurveM_true hm
  have ret := hc c rfl h9 hok H1 e1
  exact ⟨_, rfl, v, c, rfl, Dp.ex e1 hd, hdep, ok_size hok, h9, ret⟩
theorem sc_curve_of : FnScope ["text", "deep", "front", "kind", "rest", "comma"] ["text", "deep"] (defScope s_curve_of) := ⟨rfl, rfl, rfl, by decide +kernel, rfl, by decide +kernel, by decide +kernel⟩
def spCvTx (K : PySem.W.Frag) (n : Nat) : Sp := fun vs H Q E => ∃ l : List Nat, vs = [.str (st l), .int (n : Nat)] ∧ l.length ≤ 200 ∧ txRes K (curveL n l) H Q E
theorem c_curve_of (B : Blt mg) (x_InvalidText : ExcAt K mg "InvalidText") {aP : Addr} (g_PAIRS : mg "PAIRS" = some (.ref aP)) (hP : ∀ H, SqT K H aP [V.str "sum", V.str "times", V.str "max", V.str "min", V.str "into"]) (F : DefAt K mg "curve_of" s_curve_of) (c_number_of : Cal P w K mg base (CX P w) 1 "number_of" ["text"] (spNumber K)) (c_comma_in : Cal P w K mg base CX0 1 "comma_in" ["text"] (spComma K)) : ∀ n, Cal P w K mg base (CX P w) (n + 2) "curve_of" ["text", "deep"] (spCvTx K n) := by
  intro n
  induction n with
  | zero =>
    obtain ⟨⟨fd, F⟩, gl⟩ := F
    refine cal_of F gl sc_curve_of (fun _ _ _ _ _ _ us hl => match us, hl with | [_, _], _ => rfl) (fun vs H Q E h => by obtain ⟨_, rfl, _⟩ := h; rfl) (fun cdv A outer s H vs Q E hr h => ?_)
    obtain ⟨l, rfl, h2, hQ, hE⟩ := h
    refine ⟨_, (pss_cons (ps_if (pt_cmpR op_eq (pv 1) pe_int (nomark _))
        (pss_one (L2N.ps_raise rfl (L2N.takes_of rfl rfl rfl rfl) (L2N.pmk_own PySem.F.excBase_ValueError x_InvalidText.x x_InvalidText.g x_InvalidText.k (raises_own x_InvalidText.b x_InvalidText.t) rfl)))
        pss_nil)
      pss_dead), ?_⟩
    exact ⟨_, rfl, rfl, _, rfl, iteT (hE rfl _ (Same.refl _))⟩
  | succ n c_curve_of =>
    obtain ⟨⟨fd, F⟩, gl⟩ := F
    refine cal_of F gl sc_curve_of (fun _ _ _ _ _ _ us hl => match us, hl with | [_, _], _ => rfl) (fun vs H Q E h => by obtain ⟨_, rfl, _⟩ := h; rfl) (fun cdv A outer s H vs Q E hr h => ?_)
    obtain ⟨l, rfl, h2, hQ, hE⟩ := h
    refine ⟨_, (pss_cons (ps_if (pt_cmpR op_eq (pv 1) pe_int (nomark _))
        (pss_one (L2N.ps_raise rfl (L2N.takes_of rfl rfl rfl rfl) (L2N.pmk_own PySem.F.excBase_ValueError x_InvalidText.x x_InvalidText.g x_InvalidText.k (raises_own x_InvalidText.b x_InvalidText.t) rfl)))
        pss_nil)
      (pss_cons (ps_if (pt_cmpR op_eq (pv 0) pe_str (nomark _))
        (pss_one (ps_ret (pe_tup (pa_cons pe_str pa_nil))))
        pss_nil)
      (pss_cons (ps_if (pt_cmpR op_notInS pe_str (pv 0) (by rfl))
        (pss_one (ps_ret (pe_c c_number_of (hr.mono (by omega)) (L2N.passes_call (L2N.takes_of rfl rfl rfl rfl) (fun _ _ _ _ h => h)) (pa_cons (pv 0) pa_nil))))
        pss_nil)
      (pss_cons (ps_set (i := 2) sc_curve_of.nd rfl (Or.inl rfl) (pe_bm PySem.F.plainAttrs_str PySem.F.slot_str_index PySem.F.type_str_index mt_index1 (pv 0) (pa_cons pe_str pa_nil)))
      (pss_cons (ps_par (i := 3) (j := 4) rfl sc_curve_of.nd rfl rfl (by decide) rfl rfl (pa_cons (pe_slice sl_str (pv 0) po_none (po_some (pv 2))) (pa_cons (pe_slice sl_str (pv 0) (po_some (pe_op op_add (pv 2) pe_int)) (po_some (pe_un un_neg pe_int))) pa_nil)) (by rfl))
      (pss_cons (ps_if (PW.pt (pw_or (pt_cmpR op_ne (pe_ix ix_str (pv 0) (pe_un un_neg pe_int) (fun _ _ => rfl)) pe_str (nomark _)) (pw_or1 (pt_cmpR op_notIn_seq (pv 3) (pe_op op_catA (pe_glob (v := .ref aP) (by rfl) g_PAIRS rfl) (pe_tup (pa_cons pe_str pa_nil))) (by rfl)))))
        (pss_one (L2N.ps_raise rfl (L2N.takes_of rfl rfl rfl rfl) (L2N.pmk_own PySem.F.excBase_ValueError x_InvalidText.x x_InvalidText.g x_InvalidText.k (raises_own x_InvalidText.b x_InvalidText.t) rfl)))
        pss_nil)
      (pss_cons (ps_if (pt_cmpR op_eq (pv 3) pe_str (nomark _))
        (pss_one (ps_ret (pe_tup (pa_cons pe_str (pa_cons (pe_c c_curve_of (hr.mono (by omega)) (L2N.passes_call (L2N.takes_of rfl rfl rfl rfl) (fun _ _ _ _ h => h)) (pa_cons (pv 4) (pa_cons (pe_op op_sub (pv 1) pe_int) pa_nil))) pa_nil)))))
        pss_nil)
      (pss_cons (ps_set (i := 5) sc_curve_of.nd rfl (Or.inl rfl) (pe_c c_comma_in (hr.mono (by omega)) pass0 (pa_cons (pv 4) pa_nil)))
      (pss_cons (ps_if (pt_cmpR op_lt (pv 5) pe_int (nomark _))
        (pss_one (L2N.ps_raise rfl (L2N.takes_of rfl rfl rfl rfl) (L2N.pmk_own PySem.F.excBase_ValueError x_InvalidText.x x_InvalidText.g x_InvalidText.k (raises_own x_InvalidText.b x_InvalidText.t) rfl)))
        pss_nil)
      (pss_one (ps_ret (pe_tup (pa_cons (pv 3) (pa_cons (pe_c c_curve_of (hr.mono (by omega)) (L2N.passes_call (L2N.takes_of rfl rfl rfl rfl) (fun _ _ _ _ h => h)) (pa_cons (pe_slice sl_str (pv 4) po_none (po_some (pv 5))) (pa_cons (pe_op op_sub (pv 1) pe_int) pa_nil))) (pa_cons (pe_c c_curve_of (hr.mono (by omega)) (L2N.passes_call (L2N.takes_of rfl rfl rfl rfl) (fun _ _ _ _ h => h)) (pa_cons (pe_slice sl_str (pv 4) (po_some (pe_op op_add (pv 5) pe_int)) po_none) (pa_cons (pe_op op_sub (pv 1) pe_int) pa_nil))) pa_nil))))))))))))))), ?_⟩
    have hl : (st l).length ≤ sizeLine := by rw [st_len]; exact Nat.le_trans h2 (by decide)
    refine ⟨_, rfl, rfl, _, rfl, ?_⟩
    rw [decide_eq_false (show ¬ V.int ((n + 1 : Nat) : Int) = V.int 0 from fun z => by injection z with z; omega)]
    refine iteF ⟨_, rfl, rfl, _, rfl, ?_⟩
    rw [lit_x, str_dec]
    by_cases hx : l = [120]
    · rw [decide_eq_true hx]
      have hc : curveL (n + 1) l = some .x := by rw [hx]; rfl
      refine iteT ⟨(by show 1 ≤ sizeLine; decide), fun t ht => ?_⟩
      rw [← lit_x]
      exact hQ _ hc _ _ (Same.new ht) (.tup (SqT.of upd_same) (.cons (.str _) .nil))
    rw [decide_eq_false hx]
    refine iteF ⟨_, rfl, 40, _, (by rw [lit_open]; rfl), rfl, _, rfl, ?_⟩
    rw [st_list]
    cases hi : l.findIdx? (fun y => decide (y = 40)) with
    | none =>
      have hc : curveL (n + 1) l = numL l := by
        show (if l = [120] then _ else _) = _
        rw [if_neg hx, hi]
      have hm : ¬ 40 ∈ l := fun z => by
        have := List.findIdx?_eq_none_iff.mp hi 40 z
        simp at this
      rw [decide_eq_false hm]
      rw [hc] at hQ hE
      exact iteT ⟨_, rfl, l, rfl, h2, hQ, hE⟩
    | some f =>
      have hc : curveL (n + 1) l = partL (curveL n) l f := by
        show (if l = [120] then _ else _) = _
        rw [if_neg hx, hi]
      rw [hc] at hQ hE
      have hm : 40 ∈ l := by
        refine Classical.byContradiction fun z => ?_
        rw [idx_none l (fun c hc z2 => z (z2 ▸ hc))] at hi
        cases hi
      rw [decide_eq_true hm]
      refine iteF ?_
      refine ⟨_, rfl, rfl, st l, 40, f, rfl, (by rw [lit_open]; rfl), hi, ?_⟩
      refine ⟨_, rfl, _, rfl, _, rfl, _, rfl, hl, _, rfl, _, rfl, _, _, rfl, rfl, _, rfl, _, rfl, _, rfl, _, rfl, hl, _, _, rfl, ?_⟩
      have ec := cut_pre l f
      have er : cutS (st l) (some ((f : Int) + 1)) (some (-1)) = st (l.drop (f + 1)).dropLast := cut_mid l (f + 1)
      rw [ec, er]
      obtain ⟨c, hat, hgl⟩ := last_of hm
      refine ⟨_, rfl, _, rfl, _, _, c, rfl, rfl, hl, hat, rfl, _, rfl, ?_⟩
      rw [lit_close, show V.str ⟨#[c]⟩ = V.str (st [c]) from rfl, sign_dec]
      have hrl : (l.drop (f + 1)).dropLast.length ≤ 200 := by rw [List.length_dropLast, List.length_drop]; omega
      have hsl : (st (l.drop (f + 1)).dropLast).length ≤ sizeLine := by rw [st_len]; exact Nat.le_trans hrl (by decide)
      by_cases h41 : c = 41
      case neg =>
        rw [decide_eq_false h41]
        have hp : partL (curveL n) l f = none := by unfold partL; rw [hgl, if_pos (fun z => h41 (Option.some.inj z))]
        exact iteT (iteT (hE hp _ (Same.refl _)))
      rw [decide_eq_true h41]
      refine iteF ⟨_, rfl, (by show 1 ≤ sizeLine; decide), fun t1 ht1 => ⟨aP, t1, _, _, rfl, rfl, hP _, SqT.of upd_same, (by show 5 + 1 ≤ sizeLine; decide), (fun z => by cases z), (fun _ z => by cases z), fun _ _ t2 ht2 => ⟨t2, _, rfl, .inr (SqT.of upd_same), rfl, rfl, ?_⟩⟩⟩
      have e2 := (Same.new (o := .tup [V.str "abs"]) ht1).trans (Same.new (o := .tup ([V.str "sum", V.str "times", V.str "max", V.str "min", V.str "into"] ++ [V.str "abs"])) ht2)
      generalize upd (upd H t1 _) t2 _ = H2 at *
      have hp0 : partL (curveL n) l f = if l.take f = [97, 98, 115] then (curveL n (l.drop (f + 1)).dropLast).map .abs
        else match kdOf (st (l.take f)) with
          | none => none
          | some k => match commaL (l.drop (f + 1)).dropLast with
            | none => none
            | some c => pairL k (curveL n ((l.drop (f + 1)).dropLast.take c)) (curveL n ((l.drop (f + 1)).dropLast.drop (c + 1))) := by
        unfold partL
        rw [hgl, h41, if_neg (fun z => z rfl)] <;> rfl
      rw [hp0] at hQ hE
      generalize (l.drop (f + 1)).dropLast = r at *
      show ∃ c, V.bl (!inV (V.str (st (l.take f))) ([V.str "sum", V.str "times", V.str "max", V.str "min", V.str "into"] ++ [V.str "abs"])) = V.bl c ∧ _
      rw [kind_in]
      refine ⟨_, rfl, ?_⟩
      by_cases ha : l.take f = [97, 98, 115]
      · rw [decide_eq_true ha, Bool.or_true]
        rw [if_pos ha] at hQ hE
        refine iteF ⟨_, rfl, rfl, _, rfl, ?_⟩
        rw [lit_abs, str_dec, decide_eq_true ha]
        refine iteT ⟨_, rfl, _, rfl, _, _, rfl, rfl, r, congrArg (fun z => [V.str (st r), V.int z]) (by omega), hrl, fun c hc v H3 e3 hv => ?_, fun hc H3 e3 => ?_⟩
        · refine ⟨sz2, fun t ht => ?_⟩
          rw [← lit_abs]
          exact hQ (.abs c) (by rw [hc]; rfl) _ _ ((e2.trans e3).trans (Same.new ht)) (.tup (SqT.of upd_same) (.cons (.str _) (.cons (Dp.ex (Same.new ht) hv) .nil)))
        · exact hE (by rw [hc]; rfl) _ (e2.trans e3)
      rw [decide_eq_false ha, Bool.or_false]
      rw [if_neg ha] at hQ hE
      cases hk : kdOf (st (l.take f)) with
      | none =>
        rw [hk] at hE
        exact iteT (hE rfl _ e2)
      | some k =>
      rw [hk] at hQ hE
      refine iteF ⟨_, rfl, rfl, _, rfl, ?_⟩
      rw [lit_abs, str_dec, decide_eq_false ha]
      refine iteF ⟨_, rfl, r, rfl, hrl, fun H3 e3 => ?_⟩
      refine ⟨_, rfl, _, _, rfl, rfl, _, rfl, ?_⟩
      cases hco : commaL r with
      | none =>
        rw [hco] at hE
        have hi : commaI r = -1 := by unfold commaI; rw [hco]
        rw [hi]
        exact iteT (hE rfl _ (e2.trans e3))
      | some m =>
        have hi : commaI r = (m : Int) := by unfold commaI; rw [hco]
        have hQ' : ∀ c, pairL k (curveL n (r.take m)) (curveL n (r.drop (m + 1))) = some c → ∀ v H', Same H H' → Dp K H' v c.d → Q v H' := by rw [hco] at hQ; exact hQ
        have hE' : pairL k (curveL n (r.take m)) (curveL n (r.drop (m + 1))) = none → ∀ H', Same H H' → E (iT K) none H' := by rw [hco] at hE; exact hE
        rw [hi, decide_eq_false (show ¬ (m : Int) < 0 by omega)]
        refine iteF ⟨_, rfl, _, rfl, _, rfl, _, rfl, _, rfl, hsl, ?_⟩
        have ec1 := cut_pre r m
        have ec2 : cutS (st r) (some ((m : Int) + 1)) none = st (r.drop (m + 1)) := cut_suf r (m + 1)
        rw [ec1]
        refine ⟨_, rfl, _, _, rfl, rfl, r.take m, congrArg (fun z => [V.str (st (r.take m)), V.int z]) (by omega), Nat.le_trans (List.length_take_le' m r) hrl, fun c1 hc1 v1 H4 e4 hv1 => ?_, fun hc1 H4 e4 => ?_⟩
        · refine ⟨_, rfl, _, rfl, _, _, rfl, rfl, _, rfl, _, rfl, hsl, ?_⟩
          rw [ec2]
          refine ⟨_, rfl, _, _, rfl, rfl, r.drop (m + 1), congrArg (fun z => [V.str (st (r.drop (m + 1))), V.int z]) (by omega), (by rw [List.length_drop]; omega), fun c2 hc2 v2 H5 e5 hv2 => ?_, fun hc2 H5 e5 => ?_⟩
          · refine ⟨(by show 3 ≤ sizeLine; decide), fun t ht => ?_⟩
            refine hQ' (.bin k c1 c2) (by rw [hc1, hc2]; rfl) _ _ ((((e2.trans e3).trans e4).trans e5).trans (Same.new ht)) ?_
            have hs := kdOf_eq hk
            refine .tup (SqT.of upd_same) (.cons ?_ (.cons (Dp.ex (e5.trans (Same.new ht)) hv1) (.cons (Dp.ex (Same.new ht) hv2) .nil)))
            rw [hs]
            exact .str _
          · exact hE' (by rw [hc1, hc2]; rfl) _ (((e2.trans e3).trans e4).trans e5)
        · exact hE' (by rw [hc1]; rfl) _ ((e2.trans e3).trans e4)
theorem sc_parse_curve : FnScope ["text", "found"] ["text"] (defScope s_parse_curve) := ⟨rfl, rfl, rfl, by decide +kernel, rfl, by decide +kernel, by decide +kernel⟩
def parseD : PyData → Option Cv
  | .str z => parseL z.cps.toList
  | _ => none
def smallS : PyData → Prop
  | .str z => z.length ≤ sizeLine
  | _ => True
theorem curveL_in9 : ∀ (n : Nat) (l : List Nat) (c : Cv), curveL n l = some c → c.in9 = true ∧ c.depth ≤ n := by
  intro n
  induction n with
  | zero => intro l c h; cases h
  | succ n ih =>
    intro l c h
    have h : (if l = [120] then some Cv.x else match l.findIdx? (fun y => decide (y = 40)) with
      | none => numL l
      | some i => partL (curveL n) l i) = some c := h
    split at h
    · cases h; exact ⟨rfl, Nat.succ_le_succ (Nat.zero_le _)⟩
    split at h
    · unfold numL at h
      split at h
      · split at h
        · rename_i hc
          cases h
          refine ⟨Bool.and_eq_true_iff.mpr ⟨decide_eq_true ?_, decide_eq_true ?_⟩, Nat.succ_le_succ (Nat.zero_le _)⟩ <;> (split <;> omega)
        · cases h
      · cases h
    · unfold partL at h
      split at h
      · cases h
      split at h
      · cases hr : curveL n (List.drop _ l).dropLast with
        | none => rw [hr] at h; cases h
        | some a =>
          rw [hr] at h
          cases h
          have := ih _ _ hr
          exact ⟨this.1, Nat.succ_le_succ this.2⟩
      split at h
      · cases h
      split at h
      · cases h
      · unfold pairL at h
        split at h
        · rename_i ha hb
          cases h
          have h1 := ih _ _ ha
          have h2 := ih _ _ hb
          exact ⟨Bool.and_eq_true_iff.mpr ⟨h1.1, h2.1⟩, Nat.succ_le_succ (Nat.max_le.mpr ⟨h1.2, h2.2⟩)⟩
        · cases h
def spParse (K : PySem.W.Frag) : Sp := fun vs H Q E => ∃ (v : V) (d : PyData), vs = [v] ∧ Dp K H v d ∧ smallS d ∧ txRes K (parseD d) H Q E
theorem c_parse_curve (B : Blt mg) (x_InvalidText : ExcAt K mg "InvalidText") (F : DefAt K mg "parse_curve" s_parse_curve) (c_cv : ∀ n, Cal P w K mg base (CX P w) (n + 2) "curve_of" ["text", "deep"] (spCvTx K n)) (c_is_curve : Cal P w K mg base CX0 19 "is_curve" ["value"] (spIsCurve K)) (c_wr : ∀ n, Cal P w K mg base CX0 (n + 2) "written" ["curve"] (spWr K n)) : Cal P w K mg base (CX P w) 26 "parse_curve" ["text"] (spParse K) := by
  obtain ⟨⟨fd, F⟩, gl⟩ := F
  have c_written := c_wr 15
  have c_curve_of := c_cv 15
  refine cal_of F gl sc_parse_curve (fun _ _ _ _ _ _ us hl => match us, hl with | [_], _ => rfl) (fun vs H Q E h => by obtain ⟨_, _, rfl, _⟩ := h; rfl) (fun cdv A outer s H vs Q E hr h => ?_)
  obtain ⟨v, d, rfl, hd, hsm, hQ, hE⟩ := h
  refine ⟨_, (pss_cons (ps_if (PW.pt (pw_or (pt_not (pt_val (pe_callB call_isi (by rfl) B.isinstance (by decide +kernel) (pa_cons (pv 0) (pa_cons (pe_bltn (v := .ty "str") (by rfl) B.str (by decide +kernel) rfl) pa_nil))))) (pw_or1 (pt_cmpR op_gt (pe_callB call_len (by rfl) B.len (by decide +kernel) (pa_cons (pv 0) pa_nil)) pe_int (nomark _)))))
        (pss_one (L2N.ps_raise rfl (L2N.takes_of rfl rfl rfl rfl) (L2N.pmk_own PySem.F.excBase_ValueError x_InvalidText.x x_InvalidText.g x_InvalidText.k (raises_own x_InvalidText.b x_InvalidText.t) rfl)))
        pss_nil)
      (pss_cons (ps_set (i := 1) sc_parse_curve.nd rfl (Or.inl rfl) (pe_c c_curve_of (hr.mono (by omega)) (L2N.passes_call (L2N.takes_of rfl rfl rfl rfl) (fun _ _ _ _ h => h)) (pa_cons (pv 0) (pa_cons pe_int pa_nil))))
      (pss_cons (ps_if (PW.pt (pw_or (pt_not (pt_val (pe_c c_is_curve (hr.mono (by omega)) pass0 (pa_cons (pv 1) pa_nil)))) (pw_or1 (pt_cmpR op_ne (pe_c c_written (hr.mono (by omega)) pass0 (pa_cons (pv 1) pa_nil)) (pv 0) (nomark _)))))
        (pss_one (L2N.ps_raise rfl (L2N.takes_of rfl rfl rfl rfl) (L2N.pmk_own PySem.F.excBase_ValueError x_InvalidText.x x_InvalidText.g x_InvalidText.k (raises_own x_InvalidText.b x_InvalidText.t) rfl)))
        pss_nil)
      (PSs.nox (pss_one (ps_ret (pv 1))))))), ?_⟩
  cases hd with
  | non => exact ⟨_, rfl, _, _, _, _, false, rfl, .ty _, .base .non, kit_ty (by decide +kernel), false, rfl, iteT (iteT (hE rfl _ (Same.refl _)))⟩
  | bl b => exact ⟨_, rfl, _, _, _, _, false, rfl, .ty _, .base (.bl _), kit_ty (by decide +kernel), false, rfl, iteT (iteT (hE rfl _ (Same.refl _)))⟩
  | int i => exact ⟨_, rfl, _, _, _, _, false, rfl, .ty _, .base (.int _), kit_ty (by decide +kernel), false, rfl, iteT (iteT (hE rfl _ (Same.refl _)))⟩
  | lst h1 h2 => exact ⟨_, rfl, _, _, _, _, false, rfl, .ty _, ty_lst h1, kit_ty (by decide +kernel), false, rfl, iteT (iteT (hE rfl _ (Same.refl _)))⟩
  | tup h1 h2 => exact ⟨_, rfl, _, _, _, _, false, rfl, .ty _, ty_tup h1, kit_ty (by decide +kernel), false, rfl, iteT (iteT (hE rfl _ (Same.refl _)))⟩
  | str z =>
    have hl : z.length ≤ sizeLine := hsm
    refine ⟨_, rfl, _, _, _, _, true, rfl, .ty _, .base (.str z), kit_ty (by decide +kernel), true, rfl, iteF ?_⟩
    refine ⟨_, rfl, _, _, rfl, ⟨hl, rfl⟩, _, _, rfl, rfl, _, rfl, ?_⟩
    have hp : parseD (.str z) = parseL z.cps.toList := rfl
    rw [hp] at hQ hE
    have hzl : z.cps.toList.length = z.length := by simp [Str.length]
    by_cases h200 : 200 < z.length
    · rw [decide_eq_true (show (200 : Int) < ((z.length : Nat) : Int) by omega)]
      have hn : parseL z.cps.toList = none := by unfold parseL; rw [if_pos (by omega)]
      exact iteT (hE hn _ (Same.refl _))
    rw [decide_eq_false (show ¬ (200 : Int) < ((z.length : Nat) : Int) by omega)]
    have hp2 : parseL z.cps.toList = match curveL 15 z.cps.toList with
      | none => none
      | some c => if (c.ok && decide (wl c = z.cps.toList)) = true then some c else none := by unfold parseL; rw [if_neg (by omega)] <;> rfl
    refine iteF ⟨_, rfl, z.cps.toList, rfl, (by omega), fun c hc v H1 e1 hv => ?_, fun hc H1 e1 => ?_⟩
    · rw [hc] at hp2
      have hp2 : parseL z.cps.toList = if (c.ok && decide (wl c = z.cps.toList)) = true then some c else none := hp2
      obtain ⟨h9, hdep⟩ := curveL_in9 _ _ _ hc
      refine ⟨_, rfl, v, c.d, rfl, hv, shaped_d (by omega), fun H2 e2 => ⟨_, rfl, ?_⟩⟩
      rw [isCurveM_d h9]
      cases hok : c.ok with
      | false =>
        rw [hok] at hp2
        exact iteT (iteT (hE hp2 _ (e1.trans e2)))
      | true =>
        rw [hok] at hp2
        refine iteF ⟨_, rfl, v, c, rfl, Dp.ex e2 hv, hdep, ok_size hok, h9, fun H3 e3 => ⟨_, rfl, rfl, _, rfl, ?_⟩⟩
        have ez : decide (V.str (st (wl c)) = V.str z) = decide (wl c = z.cps.toList) := str_dec (wl c) z.cps.toList
        rw [ez]
        by_cases hw : wl c = z.cps.toList
        · rw [decide_eq_true hw] at hp2 ⊢
          refine iteF ⟨_, rfl, ?_⟩
          exact hQ c hp2 _ _ ((e1.trans e2).trans e3) (Dp.ex (e2.trans e3) hv)
        · rw [decide_eq_false hw] at hp2 ⊢
          exact iteT (hE hp2 _ ((e1.trans e2).trans e3))
    · rw [hc] at hp2
      exact hE hp2 _ e1
end
end Bc
set_option Elab.async false
set_option linter.all false
set_option maxRecDepth 100000
set_option maxHeartbeats 4000000
set_option pp.maxSteps 900
namespace Bc
open PySem PySem.Spec PyProof.Rows L2 LamX
/-! what _law_told(lambda: parse_curve(..)) tells -/
def toldD : Option Cv → PyData
  | none => dErr "InvalidText"
  | some c => c.d
section
variable {K : PySem.W.Frag} {σ : L2.St} {H : Hp} {T : List (Addr × Str)}
theorem tell_parse {t : XK → TE} {r : Option Cv} (hT : Tabs T H) (ht : ∀ H1, ExtN H H1 → Tabs T H1 → ∀ (E : XK) (Q : VK), txRes K r H1 Q E → t E σ H1 Q) {Q : VK} (hk : ∀ v H', Tz K H H' → Tabs T H' → Dp K H' v (toldD r) → Q v H') : tLam T (TTold K) t σ H Q := by
  refine ⟨hT, fun H1 eN T1 => ht H1 eN T1 _ _ ⟨fun c hc v H2 e2 hv => ?_, fun hn H2 e2 => ⟨"InvalidText", by decide, rfl, rfl, fun v H3 e3 hv => ?_⟩⟩⟩
  · exact hk _ _ ((Tz.ext eN).trans (Same.tz e2)) (T1.ext fun a o h => e2 a o h) (by rw [hc]; exact hv)
  · have e5 := e2.trans e3
    exact hk _ _ ((Tz.ext eN).trans (Same.tz e5)) (T1.ext fun a o h => e5 a o h) (by rw [hn]; exact hv)
end
/-! the bad texts -/
def sd (s : Str) : PyData := .str s
def badA : List PyData := [.str "", .str " ", .str "X", .str "xx", .str "10", .str "-10", .str "01", .str "-0", .str "+1", .str "--1", .str "x "]
def badB : List PyData := [.str "abs x", .str "abs()", .str "abs(x,x)", .str "sum(x)", .str "sum(x,)"]
def badC : List PyData := [.str "sum(,x)", .str "sum(x,x,x)", .str "sum(x, x)", .str "sum(x,x", .str "sum(x,x))", .str "(x)", .str "less(x,x)"]
def badE : List PyData := [.str (repS "abs(" 1200 ++ "x" ++ repS ")" 1200), .str (repS "abs(" 1200), .str (repS "(" 1200)]
def badF : List PyData := [.str (repS "abs(" 15 ++ "x" ++ repS ")" 15)]
def badD : List PyData := [.str "sum((x),x)", .str (repS "1" 5000), .str "num(1)", .str "max(x,x)x"]
def badG : List PyData := [.str (repS "x" 201)]
def smallB : PyData → Bool
  | .str z => Nat.ble z.length 10000
  | _ => true
theorem smallB_ok {d : PyData} (h : smallB d = true) : smallS d := by
  cases d with
  | str z => exact Nat.le_trans (Nat.le_of_ble_eq_true h) (by decide)
  | _ => trivial
theorem parse_long {z : Str} (h : 200 < z.length) : parseD (.str z) = none := by
  show parseL z.cps.toList = none
  unfold parseL
  have hzl : z.cps.toList.length = z.length := by simp [Str.length]
  rw [if_pos (by omega)]
theorem long_ok {z : Str} (h : 200 < z.length) (h2 : z.length ≤ 10000) : parseD (.str z) = none ∧ smallS (.str z) := ⟨parse_long h, Nat.le_trans h2 (by decide)⟩
def badS : List PyData := badA ++ badB ++ badC ++ badF ++ [.str "sum((x),x)", .str "num(1)", .str "max(x,x)x"]
theorem bad_short : ∀ d ∈ badS, parseD d = none ∧ smallS d := fun d hd =>
  ⟨(by decide +kernel : ∀ d ∈ badS, parseD d = none) d hd, smallB_ok ((by decide +kernel : ∀ d ∈ badS, smallB d = true) d hd)⟩
theorem l4 : ("abs(" : Str).length = 4 ∧ ("(" : Str).length = 1 ∧ (")" : Str).length = 1 ∧ ("x" : Str).length = 1 ∧ ("1" : Str).length = 1 := by decide +kernel
theorem bad_long : ∀ d ∈ badE ++ badG ++ [.str (repS "1" 5000)], parseD d = none ∧ smallS d := by
  obtain ⟨a1, a2, a3, a4, a5⟩ := l4
  intro d hd
  unfold badE badG at hd
  simp only [List.cons_append, List.nil_append, List.mem_cons, List.not_mem_nil, or_false] at hd
  rcases hd with rfl | rfl | rfl | rfl | rfl <;> refine long_ok ?_ ?_ <;> simp only [str_len, repS_len, a1, a2, a3, a4, a5] <;> decide
/-- all of the bad things -/
def badAll (c : Cv) : List PyData := [.none, .int 5, c.d] ++ badA ++ badB ++ badC ++ badD ++ badE ++ badF ++ badG
theorem bad_all (c : Cv) : ∀ d ∈ badAll c, parseD d = none ∧ smallS d := by
  intro d hd
  unfold badAll badD at hd
  simp only [List.mem_append, List.mem_cons, List.not_mem_nil, or_false] at hd
  rcases hd with ((((((h | h) | h) | h) | h) | h) | h) | h
  · rcases h with rfl | rfl | rfl
    · exact ⟨rfl, trivial⟩
    · exact ⟨rfl, trivial⟩
    · cases c <;> exact ⟨rfl, trivial⟩
  · exact bad_short d (by unfold badS; simp [h])
  · exact bad_short d (by unfold badS; simp [h])
  · exact bad_short d (by unfold badS; simp [h])
  · rcases h with rfl | rfl | rfl | rfl
    · exact bad_short _ (by unfold badS; simp)
    · exact bad_long _ (by simp)
    · exact bad_short _ (by unfold badS; simp)
    · exact bad_short _ (by unfold badS; simp)
  · exact bad_long d (by simp [h])
  · exact bad_short d (by unfold badS; simp [h])
  · exact bad_long d (by simp [h])
theorem good14 : parseD (.str (repS "abs(" 14 ++ "x" ++ repS ")" 14)) ≠ none := by decide +kernel
theorem sign_at {i : Int} (h0 : 0 ≤ i) (h1 : i < 9) : ∃ c, atI (("(),x-1 0a" : Str).cps.toList) i = some c := by
  have hl : ("(),x-1 0a" : Str).cps.toList.length = 9 := by decide +kernel
  have h2 : i.toNat < ("(),x-1 0a" : Str).cps.toList.length := by omega
  have := atI_nat (xs := ("(),x-1 0a" : Str).cps.toList) (j := i.toNat) (List.getElem?_eq_getElem h2)
  rw [Int.toNat_of_nonneg h0] at this
  exact ⟨_, this⟩
theorem cut_len (z : Str) (lo hi : Option Int) : (cutS z lo hi).length ≤ z.length := by
  have hz : z.cps.toList.length = z.length := by simp [Str.length]
  show (((z.cps.toList.drop _).take _).toArray).size ≤ _
  rw [List.size_toArray, List.length_take, List.length_drop]
  omega
theorem pick4 {i : Int} (h0 : 0 ≤ i) (h1 : i < 4) (s0 s1 s2 s3 : Str) : ∃ z, (z = s0 ∨ z = s1 ∨ z = s2 ∨ z = s3) ∧ atI [V.str s0, V.str s1, V.str s2, V.str s3] i = some (V.str z) := by
  have : i = 0 ∨ i = 1 ∨ i = 2 ∨ i = 3 := by omega
  rcases this with rfl | rfl | rfl | rfl
  · exact ⟨s0, .inl rfl, rfl⟩
  · exact ⟨s1, .inr (.inl rfl), rfl⟩
  · exact ⟨s2, .inr (.inr (.inl rfl)), rfl⟩
  · exact ⟨s3, .inr (.inr (.inr rfl)), rfl⟩
section
variable {K : PySem.W.Frag} {σ : L2.St} {H : Hp}
theorem mk_rep {z : Str} {k : Nat} (h1 : 1 < k) (h2 : 0 < z.length) (h3 : z.length * k ≤ 1000000) : Mks K σ H (tOp rRepS (tC (V.str z)) (tC (V.int (k : Int)))) (.str (repS z k)) := fun H1 e1 Q h => ⟨z, k, rfl, rfl, h1, h2, h3, h _ _ Kp.refl (.str _)⟩
theorem mk_addS {te tf : TE} {x y : Str} (m : Mks K σ H te (.str x)) (n : Mks K σ H tf (.str y)) (hl : x.length + y.length ≤ sizeLine) : Mks K σ H (tOp rAddS te tf) (.str (x ++ y)) := fun H1 e1 Q h => m H1 e1 _ fun v H2 e2 hv => n H2 (e1.trans e2.tp) _ fun u H3 e3 hu => by
  cases hv
  cases hu
  exact ⟨x, y, rfl, rfl, hl, h _ _ (e2.trans e3) (.str _)⟩
end
theorem err_ne (c : Cv) : PyData.eqv c.d (dErr "InvalidText") = false := by
  cases c <;> first | rfl | (rename_i k _ _; cases k <;> rfl) | decide +kernel
theorem parse_some {z : Str} {c : Cv} (h : parseD (.str z) = some c) : c.in9 = true ∧ c.ok = true ∧ wl c = z.cps.toList := by
  have h : parseL z.cps.toList = some c := h
  unfold parseL at h
  split at h
  · cases h
  split at h
  · cases h
  · rename_i c' hc
    split at h
    · rename_i ho
      cases h
      have ho := Bool.and_eq_true_iff.mp ho
      exact ⟨(curveL_in9 _ _ _ hc).1, ho.1, of_decide_eq_true ho.2⟩
    · cases h
section
variable {P : Program} {w : World} {K : PySem.W.Frag} {mg : Str → Option Value} {base : Heap}
theorem sc_law : FnScope ["script", "dice", "curve", "text", "turn", "at", "sign", "bent", "made", "bad", "thing"] ["script"] (defScope s_law) := ⟨rfl, rfl, rfl, by decide +kernel, rfl, by decide +kernel, by decide +kernel⟩
theorem ok_law {fd fd1 fd2 : FuncData} (B : Blt mg) (b_ve : mg "ValueError" = none) (Kt : Kits K) (x_CurveError : ExcAt K mg "CurveError") (x_InvalidCurve : ExcAt K mg "InvalidCurve") (x_InvalidNumber : ExcAt K mg "InvalidNumber") (x_InvalidPath : ExcAt K mg "InvalidPath") (x_InvalidText : ExcAt K mg "InvalidText") (x_TooMany : ExcAt K mg "TooMany") (x_NothingToUndo : ExcAt K mg "NothingToUndo")
    (F_term : FunD K "_law_term" "_law_term" (defArgs s__law_term) (defBody s__law_term) (defScope s__law_term) [] [] (He.ga K "_law_term") fd1) (gl_term : mg "_law_term" = some (.ref (He.ga K "_law_term"))) (F_told : FunD K "_law_told" "_law_told" (defArgs s__law_told) (defBody s__law_told) (defScope s__law_told) [] [] (He.ga K "_law_told") fd2) (gl_told : mg "_law_told" = some (.ref (He.ga K "_law_told")))
    (TB0 : TabB base mg (He.cT K ("law", none)).1 (He.cT K ("law", none)).2)
    (F : FunD K "law" "law" (defArgs s_law) (defBody s_law) (defScope s_law) [] [] (He.ga K "law") fd) (c__law_rounds : Cal P w K mg base CX0 2 "_law_rounds" ["script", "most"] (spRounds K)) (c__law_roll : Cal P w K mg base CX0 2 "_law_roll" ["dice", "many"] spRoll) (c__law_curve : Cal P w K mg base CX0 20 "_law_curve" ["dice", "deep"] (spCurve K)) (c_lt : ∀ n, Cal P w K mg base CX0 (n + 2) "_law_text" ["curve"] (spWr K n)) (c_format_curve : Cal P w K mg base (CX P w) 26 "format_curve" ["curve"] (pub1 K gWr)) (c_parse_curve : Cal P w K mg base (CX P w) 26 "parse_curve" ["text"] (spParse K)) (c_is_curve : Cal P w K mg base CX0 19 "is_curve" ["value"] (spIsCurve K)) : FnOk P w K mg base CX0 31 (He.ga K "law") fd ["script"] (spLawT K) := by
  have b_told : Binds K fd2 ["deed"] [] := FunD.bindsN F_told fun _ _ _ _ _ _ us hl => match us, hl with | [_], _ => rfl
  have c__law_text := c_lt 15
  refine fn_ofT F sc_law (fun vs H Q E h => by obtain ⟨_, _, rfl, _⟩ := h; rfl) (fun cc A outer s H vs Q E hcc hr h => ?_)
  have TB : TabB base mg cc (He.cT K ("law", none)).2 := by rw [hcc]; exact TB0
  obtain ⟨a, ns, rfl, ha, hs, htb, hq⟩ := h
  refine ⟨_, (pss_cons (ps_for PassesOwn.never rfl (pi_list (pe_c c__law_rounds (hr.mono (by omega)) pass0 (pa_cons (pv 0) (pa_cons pe_int pa_nil)))) (pg_name (i := 1) sc_law.nd rfl (Or.inl rfl))
        (pss_cons (ps_set (i := 2) sc_law.nd rfl (Or.inl rfl) (pe_c c__law_curve (hr.mono (by omega)) pass0 (pa_cons (pv 1) (pa_cons pe_int pa_nil))))
          (pss_cons (ps_set (i := 3) sc_law.nd rfl (Or.inr rfl) (pe_c c__law_text (hr.mono (by omega)) pass0 (pa_cons (pv 2) pa_nil)))
          (pss_cons (ps_if (PW.pt (pw_or (pt_cmpR op_ne (pe_c c_format_curve (hr.mono (by omega)) passF (pa_cons (pv 2) pa_nil)) (pv 3) (nomark _)) (pw_or1 (pt_cmpR (op_neD hr.units) (pe_lamN (k := 27) (TT := TTold K) (by rfl) gl_told F_told b_told sc__law_told rfl (Or.inl rfl) (told_gives B b_ve Kt x_CurveError.g x_InvalidCurve.g x_InvalidNumber.g x_InvalidPath.g x_InvalidText.g x_TooMany.g x_NothingToUndo.g F_term gl_term) TB rfl (List.mem_singleton.mpr rfl) (fun z hz _ => by rw [List.mem_singleton.mp hz]) (hr.mono (by omega)) (LamX.lamS_by (by show LamX.lamSB (defScope s_law) _ = true; decide +kernel)) rfl (fun _ _ _ _ _ => rfl) (fun _ _ _ _ _ _ _ hr => (pe_c c_parse_curve (hr.mono (by omega)) (L2N.passes_call (L2N.takes_of rfl rfl rfl rfl) (fun _ _ _ _ h => h)) (pa_cons (pv 3) pa_nil)))) (pv 2) (nomark _)))))
            (pss_one (ps_ret pe_bl))
            pss_nil)
          (pss_cons (ps_for PassesOwn.never rfl (pi_range1 (by rfl) B.range (pa_cons pe_int pa_nil)) (pg_name (i := 4) sc_law.nd rfl (Or.inl rfl))
            (pss_cons (ps_par (i := 5) (j := 6) rfl sc_law.nd rfl rfl (by decide) rfl rfl (pa_cons (pe_c c__law_roll (hr.mono (by omega)) pass0 (pa_cons (pv 1) (pa_cons (pe_op op_add (pe_callB call_len (by rfl) B.len (by decide +kernel) (pa_cons (pv 3) pa_nil)) pe_int) pa_nil))) (pa_cons (pe_ix ix_str pe_str (pe_c c__law_roll (hr.mono (by omega)) pass0 (pa_cons (pv 1) (pa_cons pe_int pa_nil))) (fun _ _ => rfl)) pa_nil)) (by rfl))
              (pss_cons (ps_set (i := 7) sc_law.nd rfl (Or.inr rfl) (pe_ix ix_list (pe_lst (pa_cons (pe_op op_add_str (pe_slice sl_str (pv 3) po_none (po_some (pv 5))) (pe_slice sl_str (pv 3) (po_some (pe_op op_add (pv 5) pe_int)) po_none)) (pa_cons (pe_op op_add_str (pe_op op_add_str (pe_slice sl_str (pv 3) po_none (po_some (pv 5))) (pv 6)) (pe_slice sl_str (pv 3) (po_some (pv 5)) po_none)) (pa_cons (pe_op op_add_str (pv 3) (pv 6)) (pa_cons (pe_slice sl_str (pv 3) po_none (po_some (pv 5))) pa_nil))))) (pe_op op_modN (pv 4) pe_int) (fun _ _ => rfl)))
              (pss_cons (ps_set (i := 8) sc_law.nd rfl (Or.inl rfl) (pe_lamN (k := 27) (TT := TTold K) (by rfl) gl_told F_told b_told sc__law_told rfl (Or.inl rfl) (told_gives B b_ve Kt x_CurveError.g x_InvalidCurve.g x_InvalidNumber.g x_InvalidPath.g x_InvalidText.g x_TooMany.g x_NothingToUndo.g F_term gl_term) TB rfl (List.mem_singleton.mpr rfl) (fun z hz _ => by rw [List.mem_singleton.mp hz]) (hr.mono (by omega)) (LamX.lamS_by (by show LamX.lamSB (defScope s_law) _ = true; decide +kernel)) rfl (fun _ _ _ _ _ => rfl) (fun _ _ _ _ _ _ _ hr => (pe_c c_parse_curve (hr.mono (by omega)) (L2N.passes_call (L2N.takes_of rfl rfl rfl rfl) (fun _ _ _ _ h => h)) (pa_cons (pv 7) pa_nil)))))
              (pss_one (ps_if (pt_cmpR (op_neD hr.units) (pv 8) (pe_tup (pa_cons pe_str (pa_cons pe_str pa_nil))) (nomark _))
                (pss_one (ps_if (PW.pt (pw_or (pt_not (pt_val (pe_c c_is_curve (hr.mono (by omega)) pass0 (pa_cons (pv 8) pa_nil)))) (pw_or1 (pt_cmpR op_ne (pe_c c_format_curve (hr.mono (by omega)) passF (pa_cons (pv 8) pa_nil)) (pv 7) (nomark _)))))
                    (pss_one (ps_ret pe_bl))
                    pss_nil))
                pss_nil))))))
          (pss_cons (ps_set (i := 9) sc_law.nd rfl (Or.inl rfl) (pe_lst (pa_cons pe_non (pa_cons pe_int (pa_cons (pv 2) (pa_cons pe_str (pa_cons pe_str (pa_cons pe_str (pa_cons pe_str (pa_cons pe_str (pa_cons pe_str (pa_cons pe_str (pa_cons pe_str (pa_cons pe_str (pa_cons pe_str (pa_cons pe_str pa_nil))))))))))))))))
          (pss_cons (ps_set (i := 9) sc_law.nd rfl (Or.inl rfl) (pe_op op_cat (pv 9) (pe_lst (pa_cons pe_str (pa_cons pe_str (pa_cons pe_str (pa_cons pe_str (pa_cons pe_str pa_nil))))))))
          (pss_cons (ps_set (i := 9) sc_law.nd rfl (Or.inl rfl) (pe_op op_cat (pv 9) (pe_lst (pa_cons pe_str (pa_cons pe_str (pa_cons pe_str (pa_cons pe_str (pa_cons pe_str (pa_cons pe_str (pa_cons pe_str pa_nil))))))))))
          (pss_cons (ps_set (i := 9) sc_law.nd rfl (Or.inl rfl) (pe_op op_cat (pv 9) (pe_lst (pa_cons pe_str (pa_cons (pe_op op_repS pe_str pe_int) (pa_cons pe_str (pa_cons pe_str pa_nil)))))))
          (pss_cons (ps_set (i := 9) sc_law.nd rfl (Or.inl rfl) (pe_op op_cat (pv 9) (pe_lst (pa_cons (pe_op op_add_str (pe_op op_add_str (pe_op op_repS pe_str pe_int) pe_str) (pe_op op_repS pe_str pe_int)) (pa_cons (pe_op op_repS pe_str pe_int) (pa_cons (pe_op op_repS pe_str pe_int) pa_nil))))))
          (pss_cons (ps_set (i := 9) sc_law.nd rfl (Or.inl rfl) (pe_op op_cat (pv 9) (pe_lst (pa_cons (pe_op op_add_str (pe_op op_add_str (pe_op op_repS pe_str pe_int) pe_str) (pe_op op_repS pe_str pe_int)) pa_nil))))
          (pss_cons (ps_for PassesOwn.never rfl (pi_list (pe_op op_cat (pv 9) (pe_lst (pa_cons (pe_op op_repS pe_str pe_int) pa_nil)))) (pg_name (i := 10) sc_law.nd rfl (Or.inr rfl))
            (pss_one (ps_if (pt_cmpR (op_neD hr.units) (pe_lamN (k := 27) (TT := TTold K) (by rfl) gl_told F_told b_told sc__law_told rfl (Or.inl rfl) (told_gives B b_ve Kt x_CurveError.g x_InvalidCurve.g x_InvalidNumber.g x_InvalidPath.g x_InvalidText.g x_TooMany.g x_NothingToUndo.g F_term gl_term) TB rfl (List.mem_singleton.mpr rfl) (fun z hz _ => by rw [List.mem_singleton.mp hz]) (hr.mono (by omega)) (LamX.lamS_by (by show LamX.lamSB (defScope s_law) _ = true; decide +kernel)) rfl (fun _ _ _ _ _ => rfl) (fun _ _ _ _ _ _ _ hr => (pe_c c_parse_curve (hr.mono (by omega)) (L2N.passes_call (L2N.takes_of rfl rfl rfl rfl) (fun _ _ _ _ h => h)) (pa_cons (pv 10) pa_nil)))) (pe_tup (pa_cons pe_str (pa_cons pe_str pa_nil))) (nomark _))
                (pss_one (ps_ret pe_bl))
                pss_nil)))
          (pss_one (ps_if (pt_cmpR (op_eqD hr.units) (pe_lamN (k := 27) (TT := TTold K) (by rfl) gl_told F_told b_told sc__law_told rfl (Or.inl rfl) (told_gives B b_ve Kt x_CurveError.g x_InvalidCurve.g x_InvalidNumber.g x_InvalidPath.g x_InvalidText.g x_TooMany.g x_NothingToUndo.g F_term gl_term) TB rfl (List.mem_singleton.mpr rfl) (fun z hz _ => by rw [List.mem_singleton.mp hz]) (hr.mono (by omega)) (LamX.lamS_by (by show LamX.lamSB (defScope s_law) _ = true; decide +kernel)) rfl (fun _ _ _ _ _ => rfl) (fun _ _ _ _ _ _ _ hr => (pe_c c_parse_curve (hr.mono (by omega)) (L2N.passes_call (L2N.takes_of rfl rfl rfl rfl) (fun _ _ _ _ h => h)) (pa_cons (pe_op op_add_str (pe_op op_add_str (pe_op op_repS pe_str pe_int) pe_str) (pe_op op_repS pe_str pe_int)) pa_nil)))) (pe_tup (pa_cons pe_str (pa_cons pe_str pa_nil))) (nomark _))
            (pss_one (ps_ret pe_bl))
            pss_nil))))))))))))))
      (pss_one (ps_ret pe_bl))), ?_⟩
  refine ⟨_, rfl, a, ns, 4, rfl, ha, hs, by decide, fun R as H0 e0 hR hR1 hlen hnd hal => ?_⟩
  have hT0 : Tabs [((He.cT K ("law", none)).2, lawQ)] H0 := fun p hp => by
    rw [List.mem_singleton.mp hp]
    exact TabS.nil (e0 _ _ htb)
  refine ⟨R, rfl, ⟨_, SqL.of hR1⟩, for_list (K := K) (a := R) (xs := as.map V.ref) (fun i σ H1 => ∃ x1 x2 x3 x4 x5 x6 x7 x8 x9 x10 : Option V, σ = [some (.ref a), x1, x2, x3, x4, x5, x6, x7, x8, x9, x10] ∧ DiceAt H1 ns R as i ∧ Tabs [((He.cT K ("law", none)).2, lawQ)] H1) ⟨none, none, none, none, none, none, none, none, none, none, rfl, DiceAt.of hR1 hnd hal, hT0⟩ (fun i σ H1 _ h => ?_) (fun i y σ H1 hy h => ?_) (fun σ H1 h => ?_)⟩
  · obtain ⟨_, _, _, _, _, _, _, _, _, _, _, h, _⟩ := h
    exact SqL.of h.r
  · obtain ⟨x1, x2, x3, x4, x5, x6, x7, x8, x9, x10, rfl, hDi, hT⟩ := h
    rw [List.getElem?_map] at hy
    obtain ⟨b, hb, rfl⟩ : ∃ b, as[i]? = some b ∧ y = .ref b := by
      cases q : as[i]? with
      | none => rw [q] at hy; cases hy
      | some b => rw [q] at hy; exact ⟨b, rfl, (Option.some.inj hy).symm⟩
    have hdb := hDi.d i b (Nat.le_refl _) hb
    have hi63 : i ≤ 1000 := by
      have := (List.getElem?_eq_some_iff.mp hb).1
      have h3 : roundsM ns 4 ≤ 4 := by unfold roundsM; omega
      omega
    generalize hcell : cellM ns i = cell at hdb
    have hDk : Dk 0 (cell, 0) := ⟨by rw [← hcell]; exact cell_bd hs hi63, Int.le_refl _, Int.le_refl _⟩
    refine ⟨_, rfl, b, (cell, 0), 0, rfl, hdb, hDk, by decide, fun v_c H2 d2 a2 h_c => ?_⟩
    refine gset (i := 2) (sg [some (V.ref a), some (V.ref b), some v_c, x3, x4, x5, x6, x7, x8, x9, x10] rfl ?_)
    obtain ⟨h9c, hokc⟩ := curve_ok (cell, 0)
    have hD2 : ∃ j, j ≤ 100 ∧ Dk j (curveM 4 (cell, 0)).2 := by
      have h1 : Dk 31 (anyM 4 (cell, 0)).2 := (Dk.any 4 hDk).mono (by decide)
      unfold curveM
      split
      · exact ⟨31, by decide, h1⟩
      · exact ⟨35, by decide, h1.leaf.leaf⟩
    generalize (curveM 4 (cell, 0)).1 = c at h_c h9c hokc
    generalize (curveM 4 (cell, 0)).2 = d at a2 hD2
    obtain ⟨j0, hj0, hD2⟩ := hD2
    have T2 := Tabs.dx hT d2 hdb
    have t2 := Dx.dt d2
    clear d2
    have hdep := ok_depth hokc
    have h9 : ok9 c = true := by unfold ok9; rw [h9c, hokc]; rfl
    refine ⟨_, rfl, v_c, c, rfl, h_c, hdep, ok_size hokc, h9c, fun H3 e3 => ?_⟩
    refine gset (i := 3) (sg [some (V.ref a), some (V.ref b), some v_c, some (V.str (st (wl c))), x4, x5, x6, x7, x8, x9, x10] rfl ?_)
    have T3 : Tabs [((He.cT K ("law", none)).2, lawQ)] H3 := T2.ext fun a o h => e3 a o h
    have t3 := t2.trans (Same.tz e3).dt
    replace h_c := Dp.ex e3 h_c
    have a3 := e3 _ _ a2
    clear e3 a2 T2 t2
    have hwl : (wl c).length ≤ 120 := wl120 (ok_size hokc) h9c
    have hparse : parseD (.str (st (wl c))) = some c := by
      show parseL (wl c) = some c
      unfold parseL
      rw [if_neg (by omega), curve_wl c 15 h9c hdep]
      show (if (c.ok && decide (wl c = wl c)) = true then some c else none) = some c
      rw [hokc, decide_eq_true rfl]
      rfl
    have hshc : SeqAt.shaped c.d = true := shaped_d (by omega)
    refine ⟨_, rfl, v_c, c.d, rfl, h_c, hshc, (fun hf => by rw [isCurveM_d h9c, hokc] at hf; cases hf), fun c' hc' _ _ H4 e4 H5 e5 => ?_⟩
    rw [← Cv.d_inj hc']
    refine ⟨_, rfl, rfl, _, rfl, ?_⟩
    rw [decide_eq_true rfl]
    have e45 := e4.trans e5
    replace T3 : Tabs [((He.cT K ("law", none)).2, lawQ)] H5 := T3.ext fun a o h => e45 a o h
    replace t3 := t3.trans (Same.tz e45).dt
    replace h_c := Dp.ex e45 h_c
    replace a3 := e45 _ _ a3
    clear e45 e4 e5
    refine iteF (tell_parse (K := K) T3 (r := parseD (.str (st (wl c)))) (fun H1 eN T1 E Q hr => ⟨_, rfl, _, .str (st (wl c)), rfl, .str _, (by show (st (wl c)).length ≤ sizeLine; rw [st_len]; exact Nat.le_trans hwl (by decide)), hr⟩) fun v H6 e6 T6 hv => ?_)
    rw [hparse] at hv
    refine ⟨_, rfl, c.d, c.d, hv, Dp.tz e6 h_c, hshc, hshc, _, rfl, ?_⟩
    rw [SeqAt.eqv_refl _ (SeqAt.canLay_of_shaped hshc)]
    replace h_c := Dp.tz e6 h_c
    replace t3 := t3.trans e6.dt
    replace a3 := e6.lst a3
    clear T3 e6 hv v
    generalize H6 = H at *
    refine iteF ?_
    have hlw : (st (wl c)).length ≤ sizeLine := by rw [st_len]; exact Nat.le_trans hwl (by decide)
    refine ⟨_, rfl, by decide, by decide, ?_⟩
    refine for_range (lo := 0) (n := 10) (fun n σ H' => ∃ (x4 x5 x6 x7 x8 : Option V) (dd : Int × Int) (j : Nat), σ = [some (V.ref a), some (V.ref b), some v_c, some (V.str (st (wl c))), x4, x5, x6, x7, x8, x9, x10] ∧ Dt K b H H' ∧ Tabs [((He.cT K ("law", none)).2, lawQ)] H' ∧ Dp K H' v_c c.d ∧ H' b = some (.lst (dL dd)) ∧ Dk j dd ∧ j ≤ 100 + 2 * n) ⟨x4, x5, x6, x7, x8, d, j0, rfl, Dt.refl, T6, h_c, a3, hD2, by omega⟩ (fun n σ H3 hn h => ?_) (fun σ H3 h => ?_)
    · obtain ⟨x4, x5, x6, x7, x8, dd, j, rfl, t4, T4, h_c, a4, hD3, hj⟩ := h
      refine gset (i := 4) (sg [some (V.ref a), some (V.ref b), some v_c, some (V.str (st (wl c))), some (V.int (0 + (n : Int))), x5, x6, x7, x8, x9, x10] rfl ?_)
      refine ⟨_, rfl, _, rfl, _, _, rfl, ⟨hlw, rfl⟩, _, _, rfl, rfl, b, dd, _, j, rfl, a4, (by omega), bd_sm (by omega) (by rw [st_len]; omega), hD3, by omega, ?_⟩
      have r1 := roll_bd dd (m := ((st (wl c)).length : Int) + 1) (by omega)
      have d5 : Dx K b H3 (upd H3 b (.lst (dL (rollM dd (((st (wl c)).length : Int) + 1)).2))) := Dx.set
      have a5 : (upd H3 b (.lst (dL (rollM dd (((st (wl c)).length : Int) + 1)).2))) b = some (.lst (dL (rollM dd (((st (wl c)).length : Int) + 1)).2)) := upd_same
      have D5 := hD3.roll (m := ((st (wl c)).length : Int) + 1) (by omega)
      have T5 := Tabs.dx T4 d5 a4
      replace h_c := Dp.tp (d5.tp a4) (noL_d c) h_c
      replace t4 := t4.trans (Dx.dt d5)
      generalize (rollM dd (((st (wl c)).length : Int) + 1)).2 = dd5 at *
      generalize (rollM dd (((st (wl c)).length : Int) + 1)).1 = at' at *
      generalize upd H3 b (.lst (dL dd5)) = H5 at *
      clear d5 T4 a4
      have r2 := roll_bd dd5 (m := 9) (by decide)
      obtain ⟨sc, hsc⟩ := sign_at r2.1 r2.2
      refine ⟨_, rfl, b, dd5, 9, j + 1, rfl, a5, by decide, bd_sm (by decide) (by decide), D5, by omega, _, _, sc, rfl, rfl, (by decide +kernel), hsc, _, _, rfl, ?_⟩
      have d6 : Dx K b H5 (upd H5 b (.lst (dL (rollM dd5 9).2))) := Dx.set
      have a6 : (upd H5 b (.lst (dL (rollM dd5 9).2))) b = some (.lst (dL (rollM dd5 9).2)) := upd_same
      have D6 := D5.roll (m := 9) (by decide)
      have T6 := Tabs.dx T5 d6 a5
      replace h_c := Dp.tp (d6.tp a5) (noL_d c) h_c
      replace t4 := t4.trans (Dx.dt d6)
      generalize (rollM dd5 9).2 = dd6 at *
      generalize upd H5 b (.lst (dL dd6)) = H6 at *
      clear d6 T5 a5 hsc r2
      refine sg [some (V.ref a), some (V.ref b), some v_c, some (V.str (st (wl c))), some (V.int (0 + (n : Int))), some (V.int at'), some (V.str ⟨#[sc]⟩), x7, x8, x9, x10] rfl ?_
      have hcut : ∀ lo hi, (cutS (st (wl c)) lo hi).length ≤ 120 := fun lo hi => Nat.le_trans (cut_len _ _ _) (by rw [st_len]; exact hwl)
      have hs1 : (⟨#[sc]⟩ : Str).length = 1 := rfl
      have hw1 : (st (wl c)).length ≤ 120 := by rw [st_len]; exact hwl
      have big : ∀ k, k ≤ 300 → k ≤ sizeLine := fun k h => Nat.le_trans h (by decide)
      have add2 : ∀ x y : Str, x.length ≤ 130 → y.length ≤ 120 → x.length + y.length ≤ sizeLine := fun x y h1 h2 => big _ (by omega)
      obtain ⟨z, hz, hat⟩ := pick4 (i := Int.fmod (0 + (n : Int)) 4) (Int.fmod_nonneg_of_pos _ (by decide)) (Int.fmod_lt_of_pos _ (by decide)) (cutS (st (wl c)) none (some at') ++ cutS (st (wl c)) (some (at' + 1)) none) (cutS (st (wl c)) none (some at') ++ ⟨#[sc]⟩ ++ cutS (st (wl c)) (some at') none) (st (wl c) ++ ⟨#[sc]⟩) (cutS (st (wl c)) none (some at'))
      have hzl : z.length ≤ 300 := by
        have c1 := hcut none (some at')
        have c2 := hcut (some (at' + 1)) none
        have c3 := hcut (some at') none
        rcases hz with rfl | rfl | rfl | rfl <;> (try simp only [str_len, hs1]) <;> omega
      refine ⟨_, rfl, _, rfl, _, rfl, _, rfl, hlw, _, rfl, _, rfl, _, _, rfl, rfl, _, rfl, _, rfl, hlw, _, _, rfl, rfl, add2 _ _ (Nat.le_trans (hcut _ _) (by decide)) (hcut _ _), ?_⟩
      refine ⟨_, rfl, _, rfl, _, rfl, _, rfl, hlw, _, rfl, _, _, rfl, rfl, add2 _ _ (Nat.le_trans (hcut _ _) (by decide)) (by rw [hs1]; decide), _, rfl, _, rfl, _, rfl, _, rfl, hlw, _, _, rfl, rfl, add2 _ _ (by rw [str_len, hs1]; have := hcut none (some at'); omega) (hcut _ _), ?_⟩
      refine ⟨_, rfl, _, rfl, _, _, rfl, rfl, add2 _ _ (Nat.le_trans hw1 (by decide)) (by rw [hs1]; decide), ?_⟩
      refine ⟨_, rfl, _, rfl, _, rfl, _, rfl, hlw, (by show 4 ≤ sizeLine; decide), fun L hL => ?_⟩
      refine ⟨_, rfl, _, _, rfl, rfl, (show (4 : Int) ≠ 0 by decide), L, _, _, _, rfl, rfl, SqL.of upd_same, hat, ?_⟩
      have eL := Same.new (o := .lst [V.str (cutS (st (wl c)) none (some at') ++ cutS (st (wl c)) (some (at' + 1)) none), V.str (cutS (st (wl c)) none (some at') ++ ⟨#[sc]⟩ ++ cutS (st (wl c)) (some at') none), V.str (st (wl c) ++ ⟨#[sc]⟩), V.str (cutS (st (wl c)) none (some at'))]) hL
      generalize upd H6 L _ = H7 at *
      refine gset (i := 7) (sg [some (V.ref a), some (V.ref b), some v_c, some (V.str (st (wl c))), some (V.int (0 + (n : Int))), some (V.int at'), some (V.str ⟨#[sc]⟩), some (V.str z), x8, x9, x10] rfl ?_)
      replace T6 : Tabs [((He.cT K ("law", none)).2, lawQ)] H7 := T6.ext fun a o h => eL a o h
      replace t4 := t4.trans (Same.tz eL).dt
      replace h_c := Dp.ex eL h_c
      replace a6 := eL _ _ a6
      clear eL hL hat hz
      refine tell_parse (K := K) T6 (r := parseD (.str z)) (fun H1 eN T1 E Q hr => ⟨_, rfl, _, .str z, rfl, .str _, (big _ hzl), hr⟩) fun v H8 e8 T8 hv => ?_
      refine gset (i := 8) (sg [some (V.ref a), some (V.ref b), some v_c, some (V.str (st (wl c))), some (V.int (0 + (n : Int))), some (V.int at'), some (V.str ⟨#[sc]⟩), some (V.str z), some v, x9, x10] rfl ?_)
      replace t4 := t4.trans e8.dt
      replace h_c := Dp.tz e8 h_c
      replace a6 := e8.lst a6
      clear e8 T6
      have s1 := shaped_err6 "InvalidText" (by decide)
      refine ⟨_, rfl, sz2, fun p hp => ?_⟩
      have e9 := Same.new (o := .tup [.str "error", .str "InvalidText"]) hp
      have herr : Dp K (upd H8 p (.tup [.str "error", .str "InvalidText"])) (.ref p) (dErr "InvalidText") := .tup (SqT.of upd_same) (.cons (.str _) (.cons (.str _) .nil))
      generalize upd H8 p (.tup [.str "error", .str "InvalidText"]) = H9 at *
      replace T8 : Tabs [((He.cT K ("law", none)).2, lawQ)] H9 := T8.ext fun a o h => e9 a o h
      replace t4 := t4.trans (Same.tz e9).dt
      replace h_c := Dp.ex e9 h_c
      replace a6 := e9 _ _ a6
      replace hv := Dp.ex e9 hv
      clear e9 hp
      cases hr : parseD (.str z) with
      | none =>
        rw [hr] at hv
        refine ⟨_, _, hv, herr, s1, s1, _, rfl, ?_⟩
        rw [show toldD none = dErr "InvalidText" from rfl, SeqAt.eqv_refl _ (SeqAt.canLay_of_shaped s1)]
        exact iteF ⟨_, _, _, _, _, dd6, j + 2, rfl, t4, T8, h_c, a6, D6, by omega⟩
      | some c1 =>
        rw [hr] at hv
        obtain ⟨k9, kok, kwl⟩ := parse_some hr
        have hs1 : SeqAt.shaped c1.d = true := shaped_d (by have := ok_depth kok; omega)
        refine ⟨_, _, hv, herr, hs1, s1, _, rfl, ?_⟩
        rw [show toldD (some c1) = c1.d from rfl, err_ne]
        refine iteT ⟨_, rfl, v, c1.d, rfl, hv, hs1, fun H10 e10 => ⟨_, rfl, ?_⟩⟩
        rw [isCurveM_d k9, kok]
        refine iteF ⟨_, rfl, v, c1.d, rfl, Dp.ex e10 hv, hs1, (fun hf => by rw [isCurveM_d k9, kok] at hf; cases hf), fun c' hc' _ _ H11 e11 H12 e12 => ?_⟩
        rw [← Cv.d_inj hc']
        refine ⟨_, rfl, rfl, _, rfl, ?_⟩
        rw [kwl, st_of, decide_eq_true rfl]
        have e := (e10.trans e11).trans e12
        exact iteF ⟨_, _, _, _, _, dd6, j + 2, rfl, t4.trans (Same.tz e).dt, T8.ext fun a o h => e a o h, Dp.ex e h_c, e _ _ a6, D6, by omega⟩
    obtain ⟨x4, x5, x6, x7, x8, dd, j, rfl, t4, T4, h_c, _, _, _⟩ := h
    replace t3 := t3.trans t4
    clear t4 T6 a3
    generalize H3 = H at *
    refine step_lst (K := K) (i := 9) (ds := [.none, .int 5, c.d] ++ badA) (mkk_con mk_non (mkk_con mk_int (mkk_con (mk_var rfl h_c (noL_d c)) (mkk_con mk_str (mkk_con mk_str (mkk_con mk_str (mkk_con mk_str (mkk_con mk_str (mkk_con mk_str (mkk_con mk_str (mkk_con mk_str (mkk_con mk_str (mkk_con mk_str (mkk_con mk_str mkk_nil)))))))))))))) fun L0 H5 e5 hL0 => ?_
    refine sg [some (V.ref a), some (V.ref b), some v_c, some (V.str (st (wl c))), x4, x5, x6, x7, x8, some (V.ref L0), x10] rfl ?_
    replace h_c := Dp.kp e5 h_c
    replace T4 := Tabs.kp T4 e5
    replace t3 := t3.trans (Kp.tz e5).dt
    clear e5
    generalize H5 = H at *
    refine step_cat (K := K) (i := 9) (es := badB) rfl hL0 (mkk_con mk_str (mkk_con mk_str (mkk_con mk_str (mkk_con mk_str (mkk_con mk_str mkk_nil))))) fun L1 H5 e5 hL1 => ?_
    refine sg [some (V.ref a), some (V.ref b), some v_c, some (V.str (st (wl c))), x4, x5, x6, x7, x8, some (V.ref L1), x10] rfl ?_
    replace h_c := Dp.kp e5 h_c
    replace T4 := Tabs.kp T4 e5
    replace t3 := t3.trans (Kp.tz e5).dt
    clear e5
    generalize H5 = H at *
    refine step_cat (K := K) (i := 9) (es := badC) rfl hL1 (mkk_con mk_str (mkk_con mk_str (mkk_con mk_str (mkk_con mk_str (mkk_con mk_str (mkk_con mk_str (mkk_con mk_str mkk_nil))))))) fun L2 H5 e5 hL2 => ?_
    refine sg [some (V.ref a), some (V.ref b), some v_c, some (V.str (st (wl c))), x4, x5, x6, x7, x8, some (V.ref L2), x10] rfl ?_
    replace h_c := Dp.kp e5 h_c
    replace T4 := Tabs.kp T4 e5
    replace t3 := t3.trans (Kp.tz e5).dt
    clear e5
    generalize H5 = H at *
    refine step_cat (K := K) (i := 9) (es := badD) rfl hL2 (mkk_con mk_str (mkk_con (mk_rep (z := "1") (k := 5000) (by decide) (by decide +kernel) (by decide +kernel)) (mkk_con mk_str (mkk_con mk_str mkk_nil)))) fun L3 H5 e5 hL3 => ?_
    refine sg [some (V.ref a), some (V.ref b), some v_c, some (V.str (st (wl c))), x4, x5, x6, x7, x8, some (V.ref L3), x10] rfl ?_
    replace h_c := Dp.kp e5 h_c
    replace T4 := Tabs.kp T4 e5
    replace t3 := t3.trans (Kp.tz e5).dt
    clear e5
    generalize H5 = H at *
    refine step_cat (K := K) (i := 9) (es := badE) rfl hL3 (mkk_con (mk_addS (mk_addS (mk_rep (z := "abs(") (k := 1200) (by decide) (by decide +kernel) (by decide +kernel)) mk_str (by rw [repS_len, l4.1, l4.2.2.2.1]; decide)) (mk_rep (z := ")") (k := 1200) (by decide) (by decide +kernel) (by decide +kernel)) (by rw [str_len, repS_len, repS_len, l4.1, l4.2.2.1, l4.2.2.2.1]; decide)) (mkk_con (mk_rep (z := "abs(") (k := 1200) (by decide) (by decide +kernel) (by decide +kernel)) (mkk_con (mk_rep (z := "(") (k := 1200) (by decide) (by decide +kernel) (by decide +kernel)) mkk_nil))) fun L4 H5 e5 hL4 => ?_
    refine sg [some (V.ref a), some (V.ref b), some v_c, some (V.str (st (wl c))), x4, x5, x6, x7, x8, some (V.ref L4), x10] rfl ?_
    replace h_c := Dp.kp e5 h_c
    replace T4 := Tabs.kp T4 e5
    replace t3 := t3.trans (Kp.tz e5).dt
    clear e5
    generalize H5 = H at *
    refine step_cat (K := K) (i := 9) (es := badF) rfl hL4 (mkk_con (mk_addS (mk_addS (mk_rep (z := "abs(") (k := 15) (by decide) (by decide +kernel) (by decide +kernel)) mk_str (by rw [repS_len, l4.1, l4.2.2.2.1]; decide)) (mk_rep (z := ")") (k := 15) (by decide) (by decide +kernel) (by decide +kernel)) (by rw [str_len, repS_len, repS_len, l4.1, l4.2.2.1, l4.2.2.2.1]; decide)) mkk_nil) fun L5 H5 e5 hL5 => ?_
    refine sg [some (V.ref a), some (V.ref b), some v_c, some (V.str (st (wl c))), x4, x5, x6, x7, x8, some (V.ref L5), x10] rfl ?_
    replace h_c := Dp.kp e5 h_c
    replace T4 := Tabs.kp T4 e5
    replace t3 := t3.trans (Kp.tz e5).dt
    clear e5
    generalize H5 = H at *
    refine ⟨_, rfl, "x", 201, rfl, rfl, by decide, by decide +kernel, by decide +kernel, (by show 1 ≤ sizeLine; decide), fun p hp => ?_⟩
    have e6 := Same.new (o := .lst [.str (repS "x" 201)]) hp
    obtain ⟨vs, hv1, hv2⟩ := hL5
    have hvs := DpAll.app (DpAll.ex e6 hv2) (DpAll.cons (Dp.str (repS "x" 201)) DpAll.nil : DpAll K (upd H p (.lst [.str (repS "x" 201)])) [.str (repS "x" 201)] badG)
    have hvl := DpAll.length hv2
    refine ⟨L5, p, vs, _, rfl, rfl, e6 _ _ hv1, upd_same, (by rw [hvl]; exact Nat.le_trans (Nat.le_of_ble_eq_true rfl : _ ≤ 100) (by decide)), fun q hq2 => ?_⟩
    have e7 := Same.new (o := .lst (vs ++ [V.str (repS "x" 201)])) hq2
    have hall := DpAll.ex e7 hvs
    have hQ1 : (upd (upd H p (.lst [.str (repS "x" 201)])) q (.lst (vs ++ [V.str (repS "x" 201)]))) q = some (.lst (vs ++ [V.str (repS "x" 201)])) := upd_same
    have e8 := e6.trans e7
    generalize upd (upd H p _) q _ = H8 at *
    replace T4 : Tabs [((He.cT K ("law", none)).2, lawQ)] H8 := T4.ext fun a o h => e8 a o h
    replace t3 := t3.trans (Same.tz e8).dt
    refine ⟨q, rfl, ⟨_, SqL.of hQ1⟩, for_list (K := K) (a := q) (xs := vs ++ [V.str (repS "x" 201)]) (fun i σ H' => ∃ x10 : Option V, σ = [some (V.ref a), some (V.ref b), some v_c, some (V.str (st (wl c))), x4, x5, x6, x7, x8, some (V.ref L5), x10] ∧ Tz K H8 H' ∧ Tabs [((He.cT K ("law", none)).2, lawQ)] H') ⟨x10, rfl, Tz.refl, T4⟩ (fun i σ H' _ h => ?_) (fun i y σ H' hy h => ?_) (fun σ H' h => ?_)⟩
    · obtain ⟨_, _, e, _⟩ := h
      exact SqL.of (e.lst hQ1)
    · obtain ⟨x10, rfl, e, T5⟩ := h
      refine gset (i := 10) (sg [some (V.ref a), some (V.ref b), some v_c, some (V.str (st (wl c))), x4, x5, x6, x7, x8, some (V.ref L5), some y] rfl ?_)
      obtain ⟨dy, hdy, hyd⟩ := DpAll.get hall hy
      obtain ⟨hbad, hsm⟩ := bad_all c dy (List.mem_of_getElem? hdy)
      refine tell_ne (K := K) (x := "InvalidText") T5 (by decide) (fun H1 eN T6 E Q hE => ?_) (fun H' e' T' => iteF ⟨_, rfl, e.trans e', T'⟩)
      have e1 := e.trans (Tz.ext eN)
      exact ⟨_, rfl, y, dy, rfl, Dp.tz e1 hyd, hsm, (fun c' hc' => by rw [hbad] at hc'; cases hc'), fun _ H' e' => hE H' e'⟩
    obtain ⟨x10, rfl, e, T5⟩ := h
    replace t3 := t3.trans e.dt
    obtain ⟨b1, b2, b3, b4, b5⟩ := l4
    refine tell_parse (K := K) T5 (r := parseD (.str (repS "abs(" 14 ++ "x" ++ repS ")" 14))) (fun H1 eN T1 E Q hr => ⟨"abs(", 14, rfl, rfl, by decide, by decide +kernel, by decide +kernel, _, _, rfl, rfl, (by rw [repS_len, b1, b4]; decide), ")", 14, rfl, rfl, by decide, by decide +kernel, by decide +kernel, _, _, rfl, rfl, (by rw [str_len, repS_len, repS_len, b1, b3, b4]; decide), _, .str (repS "abs(" 14 ++ "x" ++ repS ")" 14), rfl, .str _, smallB_ok (by decide +kernel), hr⟩) fun v H9 e9 T9 hv => ⟨sz2, fun p2 hp2 => ?_⟩
    have e10 := Same.new (o := .tup [.str "error", .str "InvalidText"]) hp2
    have s1 := shaped_err6 "InvalidText" (by decide)
    cases hr : parseD (.str (repS "abs(" 14 ++ "x" ++ repS ")" 14)) with
    | none => exact absurd hr good14
    | some c1 =>
      rw [hr] at hv
      obtain ⟨k9, kok, kwl⟩ := parse_some hr
      refine ⟨c1.d, dErr "InvalidText", Dp.ex e10 hv, .tup (SqT.of upd_same) (.cons (.str _) (.cons (.str _) .nil)), shaped_d (by have := ok_depth kok; omega), s1, _, rfl, ?_⟩
      rw [err_ne]
      exact iteF ⟨_, _, _, _, _, _, _, _, _, _, rfl, hDi.nextT hb ((t3.trans e9.dt).trans (Same.tz e10).dt), T9.ext fun a o h => e10 a o h⟩
  · exact hq _
end
end Bc
set_option Elab.async false
set_option linter.all false
set_option maxRecDepth 100000
set_option maxHeartbeats 4000000
namespace Bc
open PySem PySem.Spec PyProof.Rows L2
structure AllF (K : PySem.W.Frag) (mg : Str → Option Value) : Prop where
  B : Blt mg
  d_is_whole : DefAt K mg "is_whole" s_is_whole
  d_is_shaped : DefAt K mg "is_shaped" s_is_shaped
  d_parts_of : DefAt K mg "parts_of" s_parts_of
  d_size_of : DefAt K mg "size_of" s_size_of
  d_degree_of : DefAt K mg "degree_of" s_degree_of
  d_is_curve : DefAt K mg "is_curve" s_is_curve
  d_highest : DefAt K mg "highest" s_highest
  d_need_curve : DefAt K mg "need_curve" s_need_curve
  d_written : DefAt K mg "written" s_written
  d_format_curve : DefAt K mg "format_curve" s_format_curve
  d_number_of : DefAt K mg "number_of" s_number_of
  d_comma_in : DefAt K mg "comma_in" s_comma_in
  d_curve_of : DefAt K mg "curve_of" s_curve_of
  d_parse_curve : DefAt K mg "parse_curve" s_parse_curve
  d__law_cell : DefAt K mg "_law_cell" s__law_cell
  d__law_drawn : DefAt K mg "_law_drawn" s__law_drawn
  d__law_roll : DefAt K mg "_law_roll" s__law_roll
  d__law_rounds : DefAt K mg "_law_rounds" s__law_rounds
  d__law_term : DefAt K mg "_law_term" s__law_term
  d__law_told : DefAt K mg "_law_told" s__law_told
  d__law_leaf : DefAt K mg "_law_leaf" s__law_leaf
  d__law_any_curve : DefAt K mg "_law_any_curve" s__law_any_curve
  d__law_curve : DefAt K mg "_law_curve" s__law_curve
  d__law_text : DefAt K mg "_law_text" s__law_text
  d_law : DefAt K mg "law" s_law
  b_any : mg "any" = none
  x_CurveError : ExcAt K mg "CurveError"
  x_InvalidCurve : ExcAt K mg "InvalidCurve"
  x_InvalidNumber : ExcAt K mg "InvalidNumber"
  x_InvalidPath : ExcAt K mg "InvalidPath"
  x_InvalidText : ExcAt K mg "InvalidText"
  x_TooMany : ExcAt K mg "TooMany"
  x_NothingToUndo : ExcAt K mg "NothingToUndo"
  g_PAIRS : mg "PAIRS" = some (.ref (He.ga K "PAIRS"))
  hP : ∀ H, SqT K H (He.ga K "PAIRS") [V.str "sum", V.str "times", V.str "max", V.str "min", V.str "into"]
  b_ve : mg "ValueError" = none
  kits : Kits K
  g_MOST_PARTS : ∃ t, mg "MOST_PARTS" = some (.int 15 t)
  g_MOST_DEGREE : ∃ t, mg "MOST_DEGREE" = some (.int 6 t)
theorem allF {K : PySem.W.Frag} {w : World} {h : Heap} {mg : Str → Option Value} (X : K.In h) (G : h.Ns mainGlobals mg) (c : He.SaysX fa fn [] tf ex w h K) : AllF K mg :=
  ⟨⟨He.free_ok X G (c.t.d.fact 56 rfl), He.free_ok X G (c.t.d.fact 43 rfl), He.free_ok X G (c.t.d.fact 44 rfl), He.free_ok X G (c.t.d.fact 45 rfl), He.free_ok X G (c.t.d.fact 46 rfl), He.free_ok X G (c.t.d.fact 47 rfl), He.free_ok X G (c.t.d.fact 48 rfl), He.free_ok X G (c.t.d.fact 49 rfl), He.free_ok X G (c.t.d.fact 50 rfl), He.free_ok X G (c.t.d.fact 51 rfl), He.free_ok X G (c.t.d.fact 52 rfl), He.free_ok X G (c.t.d.fact 53 rfl), He.free_ok X G (c.t.d.fact 54 rfl), He.free_ok X G (c.t.d.fact 55 rfl)⟩,
   ⟨c.t.d.def_ 0 rfl, He.glo_ok X G (c.t.d.fact 14 rfl)⟩,
   ⟨c.t.d.def_ 1 rfl, He.glo_ok X G (c.t.d.fact 18 rfl)⟩,
   ⟨c.t.d.def_ 2 rfl, He.glo_ok X G (c.t.d.fact 19 rfl)⟩,
   ⟨c.t.d.def_ 3 rfl, He.glo_ok X G (c.t.d.fact 20 rfl)⟩,
   ⟨c.t.d.def_ 4 rfl, He.glo_ok X G (c.t.d.fact 21 rfl)⟩,
   ⟨c.t.d.def_ 5 rfl, He.glo_ok X G (c.t.d.fact 22 rfl)⟩,
   ⟨c.t.d.def_ 6 rfl, He.glo_ok X G (c.t.d.fact 23 rfl)⟩,
   ⟨c.t.d.def_ 7 rfl, He.glo_ok X G (c.t.d.fact 24 rfl)⟩,
   ⟨c.t.d.def_ 8 rfl, He.glo_ok X G (c.t.d.fact 25 rfl)⟩,
   ⟨c.t.d.def_ 9 rfl, He.glo_ok X G (c.t.d.fact 26 rfl)⟩,
   ⟨c.t.d.def_ 10 rfl, He.glo_ok X G (c.t.d.fact 27 rfl)⟩,
   ⟨c.t.d.def_ 11 rfl, He.glo_ok X G (c.t.d.fact 28 rfl)⟩,
   ⟨c.t.d.def_ 12 rfl, He.glo_ok X G (c.t.d.fact 29 rfl)⟩,
   ⟨c.t.d.def_ 13 rfl, He.glo_ok X G (c.t.d.fact 30 rfl)⟩,
   ⟨c.t.d.def_ 14 rfl, He.glo_ok X G (c.t.d.fact 31 rfl)⟩,
   ⟨c.t.d.def_ 15 rfl, He.glo_ok X G (c.t.d.fact 32 rfl)⟩,
   ⟨c.t.d.def_ 16 rfl, He.glo_ok X G (c.t.d.fact 33 rfl)⟩,
   ⟨c.t.d.def_ 17 rfl, He.glo_ok X G (c.t.d.fact 34 rfl)⟩,
   ⟨c.t.d.def_ 18 rfl, He.glo_ok X G (c.t.d.fact 35 rfl)⟩,
   ⟨c.t.d.def_ 19 rfl, He.glo_ok X G (c.t.d.fact 36 rfl)⟩,
   ⟨c.t.d.def_ 20 rfl, He.glo_ok X G (c.t.d.fact 37 rfl)⟩,
   ⟨c.t.d.def_ 21 rfl, He.glo_ok X G (c.t.d.fact 38 rfl)⟩,
   ⟨c.t.d.def_ 22 rfl, He.glo_ok X G (c.t.d.fact 39 rfl)⟩,
   ⟨c.t.d.def_ 23 rfl, He.glo_ok X G (c.t.d.fact 40 rfl)⟩,
   ⟨c.t.d.def_ 24 rfl, He.glo_ok X G (c.t.d.fact 41 rfl)⟩,
   He.free_ok X G (c.t.d.fact 57 rfl),
   ⟨He.glo_ok X G (c.t.d.fact 0 rfl), (He.exc_ok (c.t.d.fact 59 rfl)).1, (He.exc_ok (c.t.d.fact 59 rfl)).2.1, (He.exc_ok (c.t.d.fact 59 rfl)).2.2.1, (He.exc_ok (c.t.d.fact 59 rfl)).2.2.2⟩,
   ⟨He.glo_ok X G (c.t.d.fact 2 rfl), (He.exc_ok (c.t.d.fact 60 rfl)).1, (He.exc_ok (c.t.d.fact 60 rfl)).2.1, (He.exc_ok (c.t.d.fact 60 rfl)).2.2.1, (He.exc_ok (c.t.d.fact 60 rfl)).2.2.2⟩,
   ⟨He.glo_ok X G (c.t.d.fact 4 rfl), (He.exc_ok (c.t.d.fact 61 rfl)).1, (He.exc_ok (c.t.d.fact 61 rfl)).2.1, (He.exc_ok (c.t.d.fact 61 rfl)).2.2.1, (He.exc_ok (c.t.d.fact 61 rfl)).2.2.2⟩,
   ⟨He.glo_ok X G (c.t.d.fact 6 rfl), (He.exc_ok (c.t.d.fact 62 rfl)).1, (He.exc_ok (c.t.d.fact 62 rfl)).2.1, (He.exc_ok (c.t.d.fact 62 rfl)).2.2.1, (He.exc_ok (c.t.d.fact 62 rfl)).2.2.2⟩,
   ⟨He.glo_ok X G (c.t.d.fact 8 rfl), (He.exc_ok (c.t.d.fact 63 rfl)).1, (He.exc_ok (c.t.d.fact 63 rfl)).2.1, (He.exc_ok (c.t.d.fact 63 rfl)).2.2.1, (He.exc_ok (c.t.d.fact 63 rfl)).2.2.2⟩,
   ⟨He.glo_ok X G (c.t.d.fact 10 rfl), (He.exc_ok (c.t.d.fact 64 rfl)).1, (He.exc_ok (c.t.d.fact 64 rfl)).2.1, (He.exc_ok (c.t.d.fact 64 rfl)).2.2.1, (He.exc_ok (c.t.d.fact 64 rfl)).2.2.2⟩,
   ⟨He.glo_ok X G (c.t.d.fact 12 rfl), (He.exc_ok (c.t.d.fact 65 rfl)).1, (He.exc_ok (c.t.d.fact 65 rfl)).2.1, (He.exc_ok (c.t.d.fact 65 rfl)).2.2.1, (He.exc_ok (c.t.d.fact 65 rfl)).2.2.2⟩,
   He.glo_ok X G (c.t.d.fact 17 rfl),
   fun H => He.tupB_ok (Bool.and_eq_true_iff.mp c.more).1 H,
   He.free_ok X G (c.t.d.fact 42 rfl),
   kits_of (Bool.and_eq_true_iff.mp c.more).2,
   He.int_ok X G (c.t.d.fact 15 rfl),
   He.int_ok X G (c.t.d.fact 16 rfl)⟩
end Bc
set_option Elab.async false
set_option linter.all false
set_option maxRecDepth 100000
set_option maxHeartbeats 4000000
namespace Bc
open PySem PySem.Spec PyProof.Rows L2
theorem lawAt {w : World} {K : PySem.W.Frag} {h : Heap} {mg : Str → Option Value} {f : Addr} (X : K.In h) (G : h.Ns mainGlobals mg) (hf : mg ("law" : Str) = some (.ref f)) (c : He.SaysX fa fn [] tf ex w h K) : LamX.LawAtS PySem.Challenge.rw_bentcurves_k06_whole_texts w K CX0 31 63 "script" mg f h := by
  have T := allF X G c
  obtain ⟨t1, hg_MOST_PARTS⟩ := T.g_MOST_PARTS
  obtain ⟨t2, hg_MOST_DEGREE⟩ := T.g_MOST_DEGREE
  obtain ⟨fd, F⟩ := T.d_law.fd
  have e := hf.symm.trans T.d_law.gl
  cases e
  have b := FunD.bindsA (ps := ["script"]) F fun _ _ _ _ _ _ us hl => match us, hl with | [_], _ => rfl
  have mm : ∀ {p : Addr × Addr}, p ∈ [He.cT K (("law" : Str), none)] → p = He.cT K ("law", none) := fun h => List.mem_singleton.mp h
  refine ⟨fd, [He.cT K ("law", none)], spLawT K, fun p h => by rw [mm h]; exact c.empty _ (List.mem_singleton.mpr rfl), fun p h => by rw [mm h]; exact c.out _ (List.mem_singleton.mpr rfl), fun p h => by rw [mm h]; exact PySem.W.codeHd_of_K X (c.hd _ (List.mem_singleton.mpr rfl)), fun s v => b s [v] rfl, fun H a ns h1 h2 htb h3 => ⟨a, ns, rfl, h3, ⟨h1, h2⟩, htb _ (List.mem_singleton.mpr rfl), fun _ => rfl⟩, fun base _ _ hTB => ?_⟩
  have TB0 := hTB _ (List.mem_singleton.mpr rfl)
  obtain ⟨⟨fd_law_term, F_term⟩, gl_term⟩ := T.d__law_term
  obtain ⟨⟨fd_law_told, F_told⟩, gl_told⟩ := T.d__law_told
  obtain ⟨P, hP⟩ : ∃ P : Program, P = PySem.Challenge.rw_bentcurves_k06_whole_texts.prog := ⟨_, rfl⟩
  rw [← hP]
  have c_is_whole := c_is_whole (P := P) (w := w) (base := base) T.B T.d_is_whole
  have c_parts_of := c_parts_of (P := P) (w := w) (base := base) T.B T.d_parts_of
  have c_size_of := fun m : Nat => @c_size_of P w K mg base T.B T.d_size_of c_parts_of m
  have c_degree_of := c_degree_of (P := P) (w := w) (base := base) T.B T.d_degree_of c_parts_of
  have c_highest := c_highest (P := P) (w := w) (base := base) T.B T.d_highest c_parts_of c_degree_of
  have c_is_shaped := c_is_shaped (P := P) (w := w) (base := base) T.B T.d_is_shaped c_is_whole T.g_PAIRS T.hP
  have c_is_curve := c_is_curve (P := P) (w := w) (base := base) T.d_is_curve hg_MOST_PARTS hg_MOST_DEGREE c_is_shaped (fun m n => c_size_of m n) c_highest
  have c_need_curve := c_need_curve (P := P) (w := w) (base := base) T.x_InvalidCurve T.d_need_curve c_is_curve
  have c__law_cell := c__law_cell (P := P) (w := w) (base := base) T.B T.d__law_cell
  have c__law_drawn := c__law_drawn (P := P) (w := w) (base := base) T.d__law_drawn
  have c__law_roll := c__law_roll (P := P) (w := w) (base := base) T.d__law_roll c__law_drawn
  have c__law_rounds := c__law_rounds (P := P) (w := w) (base := base) T.B T.d__law_rounds c__law_cell
  have c__law_leaf := c__law_leaf (P := P) (w := w) (base := base) T.d__law_leaf c__law_roll
  have c__law_any_curve := c__law_any_curve (P := P) (w := w) (base := base) T.d__law_any_curve c__law_roll c__law_leaf
  have c__law_curve := c__law_curve (P := P) (w := w) (base := base) T.d__law_curve c__law_any_curve c_is_curve c__law_leaf
  have c_number_of := c_number_of (P := P) (w := w) (base := base) T.B T.x_InvalidText T.d_number_of
  have c_comma_in := c_comma_in (P := P) (w := w) (base := base) T.B T.d_comma_in
  have c_written := c_written (P := P) (w := w) (base := base) T.B T.d_written
  have c__law_text := c__law_text (P := P) (w := w) (base := base) T.B T.d__law_text
  have c_format_curve := c_format_curve (P := P) (w := w) (base := base) T.d_format_curve c_need_curve c_written
  have c_curve_of := c_curve_of (P := P) (w := w) (base := base) T.B T.x_InvalidText T.g_PAIRS T.hP T.d_curve_of c_number_of c_comma_in
  have c_parse_curve := c_parse_curve (P := P) (w := w) (base := base) T.B T.x_InvalidText T.d_parse_curve c_curve_of c_is_curve c_written
  exact ok_law T.B T.b_ve T.kits T.x_CurveError T.x_InvalidCurve T.x_InvalidNumber T.x_InvalidPath T.x_InvalidText T.x_TooMany T.x_NothingToUndo F_term gl_term F_told gl_told TB0 F c__law_rounds c__law_roll c__law_curve c__law_text c_format_curve c_parse_curve c_is_curve
end Bc
open PySem PySem.W PySem.Calls PyProof.Rows
theorem PySem.Challenge.cw_bentcurves_k06_whole_texts_holds : PySem.Challenge.rw_bentcurves_k06_whole_texts.Holds := by
  w_on; o_law
  refine HandSHeadRun.head_any (r := OpenLaw.row PySem.Challenge.rw_bentcurves_k06_whole_texts) (q := view (OpenLaw.row PySem.Challenge.rw_bentcurves_k06_whole_texts).prog [39]) (H := Bc.hk) (ob := Bc.ob) (M := 9000) (loose := Bc.nms) (d := HandSHeadRun.topDef (OpenLaw.row PySem.Challenge.rw_bentcurves_k06_whole_texts).prog 39) (kwd := []) Bc.ob_eq
    (by kernel_rfl) (fun s => by kernel_rfl) Bc.run (by kernel_rfl) (by kernel_rfl) (by kernel_rfl) (by rfl) (by first | assumption | decide +kernel) (by decide +kernel) ⟨rfl, rfl, rfl, rfl, rfl, by decide +kernel⟩ ?hw ?hc
  case hw => w_witness2
  case hc =>
    refine LamX.walk_ofTsE (l := PySem.Challenge.rw_bentcurves_k06_whole_texts) (n := 63) (k := 31) (x := "script") (CX := fun _ => L2.CX0) rfl (by decide) (by kernel_rfl) ⟨rfl, by decide, by decide⟩ ?F (fun _ _ _ _ _ z => z)
    intro w mg fa h Y G hmg0
    obtain ⟨K, KX, c⟩ := Y
    have hmg : mg ("law" : PySem.Str) = some (.ref fa) := by
      have e : (HandSHeadRun.topDef (OpenLaw.row PySem.Challenge.rw_bentcurves_k06_whole_texts).prog 39).name = ("law" : PySem.Str) := by kernel_rfl
      rw [← e]
      exact hmg0
    exact ⟨K, KX, Bc.lawAt KX G hmg c⟩
