import PyProof.Rows.All
import Wide.All
import OpenK.AllK
import Wide.FinOn
import HandS.ForMost
import HandS.TupAny
import HandS.TupLen
import HandS.Deep
import HandS.Codes
import HandS.IsInst
import HandS.Zip
import HandS.DictComp
import HandS.Defaults
import HandS.Wide
import HandS.Style
import HandS.More
import HandS.IterVal
import HandS.WordsExc
import HandS.HeadHook1
import HandS.HeadHook2
import HandS.HeadHook3
import HandS.SortRule
import KE.KDictPairs
import KE.KDictCopyH
import KE.GoesEnum
import KE.GoesZip
import KE.KStateDown
import Lean
import HandS.Base
import HandS.Call
import HandS.Ends
import HandS.Words
import HandS.Head0
import HandS.Head1
import HandS.Head2
import HandS.HeadEnd
import HandS.HeadHook4
import HandS.Evl
import PySem.Challenge.RW_withinall_k72_machines_by_turns
set_option Elab.async false
set_option linter.all false
set_option maxRecDepth 100000
set_option maxHeartbeats 4000000
/-! Wx: rules that the hand layer lacks, and its rules put together by kinds, so that a printed derivation needs no types. -/
namespace WSort
open PySem PyProof.Rows Srt SrtO
/-! sorted, of tuples (text, int) -/
def slt (p q : Str × Int) : Bool := if p.1 = q.1 then decide (p.2 < q.2) else decide (p.1.cps.toList < q.1.cps.toList)
theorem cps_ext {a b : Str} (h : a.cps.toList = b.cps.toList) : a = b := by
  cases a; cases b
  congr 1
  exact Array.toList_inj.mp h
theorem ltn {a b : List Nat} (h : ¬ a < b) (h2 : ¬ b < a) : a = b := by
  exact List.le_antisymm (List.not_lt.mp h2) (List.not_lt.mp h)
theorem slt_swo (k : Value → Str × Int) : Swo fun v u => slt (k v) (k u) := by
  refine ⟨fun x y h => ?_, fun x y z h1 h2 => ?_⟩
  · unfold slt at *
    by_cases e : (k x).1 = (k y).1
    · rw [if_pos e, decide_eq_true_eq] at h
      rw [if_pos e.symm]
      exact decide_eq_false (by omega)
    · rw [if_neg e, decide_eq_true_eq] at h
      rw [if_neg (fun q => e q.symm)]
      exact decide_eq_false (fun h' => absurd (List.lt_trans h h') (List.lt_irrefl _))
  · unfold slt at *
    generalize k x = a at *
    generalize k y = b at *
    generalize k z = c at *
    by_cases e1 : b.1 = a.1
    · rw [if_pos e1, decide_eq_false_iff_not] at h1
      by_cases e2 : c.1 = b.1
      · rw [if_pos e2, decide_eq_false_iff_not] at h2
        rw [if_pos (e2.trans e1)]
        exact decide_eq_false (by omega)
      · rw [if_neg e2] at h2
        rw [if_neg (fun q => e2 (q.trans e1.symm)), ← e1]
        exact h2
    · rw [if_neg e1, decide_eq_false_iff_not] at h1
      by_cases e2 : c.1 = b.1
      · rw [if_pos e2] at h2
        rw [if_neg (fun q => e1 (e2.symm.trans q)), e2]
        exact decide_eq_false h1
      · rw [if_neg e2, decide_eq_false_iff_not] at h2
        have l1 : a.1.cps.toList < b.1.cps.toList := by
          apply Classical.byContradiction
          intro n
          exact e1 (cps_ext (ltn h1 n))
        have l2 : b.1.cps.toList < c.1.cps.toList := by
          apply Classical.byContradiction
          intro n
          exact e2 (cps_ext (ltn h2 n))
        have l3 := List.lt_trans l1 l2
        rw [if_neg (fun q => by rw [q] at l3; exact List.lt_irrefl _ l3)]
        exact decide_eq_false (fun h' => List.lt_irrefl _ (List.lt_trans l3 h'))
def IsPT (h : Heap) (v : Value) (x : Str) (y : Int) : Prop := ∃ a o t u n, v = .ref a ∧ h.get? a = some o ∧ o.cls = .type "tuple" ∧ o.data = .seq #[.str x t, .int y u] n
theorem IsPT.keeps {h h' : Heap} {v : Value} {x : Str} {y : Int} (p : IsPT h v x y) (k : ∀ b o, h.get? b = some o → o.cls = .type "tuple" → h'.get? b = some o) : IsPT h' v x y := by
  obtain ⟨a, o, t, u, n, e, ho, hc, hd⟩ := p
  exact ⟨a, o, t, u, n, e, k _ _ ho hc, hc, hd⟩
theorem firsts {h : Heap} : ∀ {vs : List Value}, (∀ v ∈ vs, ∃ x y, IsPT h v x y) → ∃ fs : List Value, PySem.W.KatTups h vs fs ∧ fs.length = vs.length ∧ ∀ f ∈ fs, ∃ x t, f = Value.str x t
  | [], _ => ⟨[], .nil, rfl, fun _ z => nomatch z⟩
  | v :: vs, hp => by
    obtain ⟨fs, k1, k2, k3⟩ := firsts (vs := vs) fun u hu => hp u (List.mem_cons_of_mem _ hu)
    obtain ⟨x, y, a, o, t, u, n, rfl, ho, hc, hd⟩ := hp v (List.mem_cons_self ..)
    refine ⟨.str x t :: fs, .cons ho hc hd rfl k1, congrArg Nat.succ k2, fun f hf => ?_⟩
    rcases List.mem_cons.mp hf with z | z
    · exact ⟨x, t, z⟩
    · exact k3 f z
section
variable {prog : Program} {w : World} {A : Around} {E : Value → Shared → Prop} {s : Shared}
theorem pt_cmp {vs : List Value} {k : Value → Str × Int} (hp : ∀ v ∈ vs, IsPT s.heap v (k v).1 (k v).2) : SrtO.Cmp prog w A s (tuples' true) (fun p => p.1 ∈ vs) (lt2 fun v u => slt (k v) (k u)) := by
  intro p q hm hm'
  have h1 := hp _ hm
  have h2 := hp _ hm'
  show wpAny (model prog w) A (keyLt' (tuples' true) p.1 q.1) (fun r s' => s' = s ∧ r = slt (k p.1) (k q.1)) (fun _ _ => False) s
  unfold slt
  generalize (k p.1).1 = x at h1 ⊢
  generalize (k p.1).2 = y at h1 ⊢
  generalize (k q.1).1 = x' at h2 ⊢
  generalize (k q.1).2 = y' at h2 ⊢
  obtain ⟨a, o, t, u, n, e, ho, hc, hd⟩ := h1
  obtain ⟨a', o', t', u', n', e', ho', hc', hd'⟩ := h2
  rw [e, e']
  refine PySem.W.kat_lt ho hd ho' hd' ?_
  show PySem.W.KatLex prog w A true (decide (2 < 2)) _ [(.str x t, .str x' t'), (.int y u, .int y' u')] 0 s
  refine PySem.W.kat_cons (SeqAt.EqAt.str_str x t x' t' prog w _ _ ?_)
  by_cases ex : x = x'
  · have b1 : (x == x') = true := by rw [ex]; exact beq_self_eq_true _
    rw [b1, if_pos ex]
    refine PySem.W.kat_yes (PySem.W.kat_cons (SeqAt.EqAt.int_int y u y' u' prog w _ _ ?_))
    by_cases ey : y = y'
    · have b2 : (y == y') = true := by rw [ey]; exact beq_self_eq_true _
      rw [b2]
      refine PySem.W.kat_yes (PySem.W.kat_nil ⟨rfl, ?_⟩)
      rw [ey]
      exact (decide_eq_false (Int.lt_irrefl _)).symm
    · have b2 : (y == y') = false := beq_eq_false_iff_ne.mpr ey
      rw [b2]
      exact PySem.W.kat_no (PySem.W.kat_one _ _ (PyProof.Rows.lt_int ⟨rfl, rfl⟩))
  · have b1 : (x == x') = false := beq_eq_false_iff_ne.mpr ex
    rw [b1, if_neg ex]
    exact PySem.W.kat_no (oneLt_str ⟨rfl, rfl⟩)
theorem pts_sortable {a : Addr} {vs : List Value} {k : Value → Str × Int} (h0 : 0 < vs.length) (hp : ∀ v ∈ vs, IsPT s.heap v (k v).1 (k v).2) (ha : ∀ o, s.heap.get? a = some o → o.cls ≠ .type "tuple") : SortableO prog w A s a vs fun v u => slt (k v) (k u) := by
  intro h' keep
  have hq : ∀ v ∈ vs, IsPT h' v (k v).1 (k v).2 := fun v hm => (hp v hm).keeps fun b o e c => keep b o (fun z => ha o (z ▸ e) c) e
  obtain ⟨fs, h1, h2, h3⟩ := firsts fun v hm => ⟨_, _, hq v hm⟩
  refine ⟨tuples' true, fun Q E q => ?_, pt_cmp hq⟩
  refine PySem.W.kat_kind (T := .type "str") h1 (by omega) (fun f hm => ?_) (by rfl) ?_
  · obtain ⟨x, t, rfl⟩ := h3 f hm
    exact PySem.W.Looks.now
  · have e : (Value.type "str" != Value.type "tuple") = true := by decide +kernel
    rw [e]
    exact q
theorem sorted_pts {l : Addr} {vs : List Value} {k : Value → Str × Int} {Q : Value → Shared → Prop} (hl : s.heap.IsList l vs.toArray) (hz : vs.length ≤ sizeLine) (hp : ∀ v ∈ vs, IsPT s.heap v (k v).1 (k v).2)
    (h : ∀ (h' : Heap) (d : Addr) (out : List Value), Stb (fun v u => slt (k v) (k u)) out vs → (∀ b o, s.heap.get? b = some o → h'.get? b = some o) → s.heap.objs.size ≤ d → (∃ n, h'.get? d = some (seqObj "list" out.toArray n)) → Q (.ref d) { s with heap := h' }) :
    wpAny (model prog w) A (call (.builtin "sorted") [.ref l]) Q E s := by
  refine sorted_ord (slt_swo k) hl hz (fun h2 h₁ a ha kk => ?_) fun out hs hb => h _ _ out hb (fun b o e => sortedAll_old e) (Nat.le_succ _) (sortedAll_at s.heap vs out.toArray)
  refine pts_sortable (s := { s with heap := h₁ }) (by omega) (fun v hm => (hp v hm).keeps fun b o e _ => (kk b o e).2) fun o e => ?_
  have e' : some o = some (seqObj "list" vs.toArray 0) := e.symm.trans ha
  cases e'
  exact fun c => absurd (Value.type.inj c) (by decide)
end
end WSort
namespace L2
open PySem PySem.Spec PyProof.Rows
section
variable {X : Cx}
/-! ### operators -/
def rAddX (K : PySem.W.Frag) : R2 := fun x y H Q => (∃ i j, x = .int i ∧ y = .int j ∧ Q (.int (i + j)) H) ∨ (rCat x y H Q ∨ rCatA K x y H Q)
theorem op_addX : OpR X (binaryOp .Add) (rAddX X.K) := op_add.or (op_cat.or op_catA)
abbrev rSubX : R2 := rI0 fun i j => .int (i - j)
def rMulX : R2 := fun x y H Q => (∃ i j, x = .int i ∧ y = .int j ∧ CMulW i j ∧ Q (.int (i * j)) H) ∨ rRep x y H Q
theorem op_mulX : OpR X (binaryOp .Mult) rMulX := op_mulW.or op_rep
def rFdvX : R2 := fun x y H Q => (∃ i j, x = .int i ∧ y = .int j ∧ CDivW i j ∧ Q (.int (i / j)) H) ∨ (∃ i j, x = .int i ∧ y = .int j ∧ CDivN i j ∧ Q (.int (i.fdiv j)) H)
theorem op_fdvX : OpR X (binaryOp .FloorDiv) rFdvX := op_fdivW.or op_fdivN
abbrev rModX : R2 := rI (fun _ j => j ≠ 0) fun i j => .int (i.fmod j)
abbrev rPowX : R2 := rI CPow fun i j => .int (i ^ j.toNat)
abbrev rNegX : V → Hp → VK → Prop := rU fun i => .int (-i)
abbrev rLtX : R2 := rI0 fun i j => .bl (decide (i < j))
abbrev rLeX : R2 := rI0 fun i j => .bl (decide (i ≤ j))
abbrev rGtX : R2 := rI0 fun i j => .bl (decide (j < i))
abbrev rGeX : R2 := rI0 fun i j => .bl (decide (j ≤ i))
abbrev rIsNX : R2 := fun x y H Q => y = .non ∧ Q (.bl (decide (x = .non))) H
abbrev rNotNX : R2 := fun x y H Q => y = .non ∧ Q (.bl (!decide (x = .non))) H
/-- two lists of unlike lengths -/
def rEqE (r : Bool) : R2 := fun x y H Q => ∃ a b xs ys, x = .ref a ∧ y = .ref b ∧ H a = some (.lst xs) ∧ H b = some (.lst ys) ∧ xs.length ≠ ys.length ∧ Q (.bl r) H
theorem op_eqE (hu : X.A.units + 64 < cLine) : OpR X (compareOp .Eq) (rEqE false) := by
  intro pins s σ H x y v u Q I rx ry h
  obtain ⟨a, b, xs, ys, rfl, rfl, ha, hb, hne, q⟩ := h
  cases rx
  cases ry
  obtain ⟨its, rv, pl, _⟩ := I.list (SqL.of ha)
  obtain ⟨its2, rv2, pl2, _⟩ := I.list (SqL.of hb)
  have e1 := rv.length
  have e2 := rv2.length
  refine SeqAt.RcAt.lists_lengths pl.isList pl2.isList ?_ (by omega) _ _ _ _ ⟨.bl false, H, I, rfl, q⟩
  rw [bne_iff_ne, List.size_toArray, List.size_toArray]
  omega
theorem op_neE (hu : X.A.units + 64 < cLine) : OpR X (compareOp .NotEq) (rEqE true) := by
  intro pins s σ H x y v u Q I rx ry h
  obtain ⟨a, b, xs, ys, rfl, rfl, ha, hb, hne, q⟩ := h
  cases rx
  cases ry
  obtain ⟨its, rv, pl, _⟩ := I.list (SqL.of ha)
  obtain ⟨its2, rv2, pl2, _⟩ := I.list (SqL.of hb)
  have e1 := rv.length
  have e2 := rv2.length
  refine SeqAt.RcNeAt.lists_lengths pl.isList pl2.isList ?_ (by omega) _ _ _ _ ⟨.bl true, H, I, rfl, q⟩
  rw [bne_iff_ne, List.size_toArray, List.size_toArray]
  omega
def rEqX (K : PySem.W.Frag) : R2 := fun x y H Q => rEq x y H Q ∨ (rEqD K x y H Q ∨ rEqE false x y H Q)
def rNeX (K : PySem.W.Frag) : R2 := fun x y H Q => rNe x y H Q ∨ (rNeD K x y H Q ∨ rEqE true x y H Q)
theorem op_eqX {k : Nat} (hr : Room k X.A) : OpR X (compareOp .Eq) (rEqX X.K) := op_eq.or ((op_eqD hr.units).or (op_eqE hr.units))
theorem op_neX {k : Nat} (hr : Room k X.A) : OpR X (compareOp .NotEq) (rNeX X.K) := op_ne.or ((op_neD hr.units).or (op_neE hr.units))
/-- in a list or tuple of data -/
def rInDX (K : PySem.W.Frag) (neg : Bool) : R2 := fun x y H Q => ∃ d ds, Dp K H x d ∧ (Dp K H y (.list ds) ∨ Dp K H y (.tuple ds)) ∧ SeqAt.shaped d = true ∧ SeqAt.shaped (.list ds) = true ∧ Q (.bl (if neg then !ds.any fun z => PyData.eqv z d else ds.any fun z => PyData.eqv z d)) H
theorem room_in2 {d : PyData} {ds : List PyData} {A : Around} (sd : SeqAt.shaped d = true) (hu : A.units + 65 < cLine) : A.units + 1 + min (PyData.depthAll ds) d.depth < cLine := by
  unfold SeqAt.shaped at sd
  rw [Bool.and_eq_true, decide_eq_true_eq] at sd
  have := sd.2
  omega
theorem lay_of {ds : List PyData} (h : SeqAt.shaped (.list ds) = true) : PyData.canLayAll0 ds = true := by
  unfold SeqAt.shaped at h
  rw [Bool.and_eq_true] at h
  have := h.1
  simpa [PyData.canLay0] using this
theorem lay_of1 {d : PyData} (h : SeqAt.shaped d = true) : d.canLay0 = true := by
  unfold SeqAt.shaped at h
  rw [Bool.and_eq_true] at h
  exact h.1
theorem op_inDX (hu : X.A.units + 65 < cLine) : OpR X (compareOp .In) (rInDX X.K false) := by
  intro pins s σ H x y v u Q I rx ry h
  obtain ⟨d, ds, hd, he, sd, se, q⟩ := h
  obtain ⟨as, r1⟩ := Dp.reads I d x v hd rx
  rcases he with he | he
  · obtain ⟨bs, r2⟩ := Dp.reads I (.list ds) y u he ry
    exact SeqAt.in_list_reads r2 r1 (lay_of se) (lay_of1 sd) (room_in2 sd hu) ⟨.bl _, H, I, rfl, q⟩
  · obtain ⟨bs, r2⟩ := Dp.reads I (.tuple ds) y u he ry
    exact SeqAt.in_tuple_reads r2 r1 (lay_of se) (lay_of1 sd) (room_in2 sd hu) ⟨.bl _, H, I, rfl, q⟩
theorem op_notInDX (hu : X.A.units + 65 < cLine) : OpR X (compareOp .NotIn) (rInDX X.K true) := by
  intro pins s σ H x y v u Q I rx ry h
  obtain ⟨d, ds, hd, he, sd, se, q⟩ := h
  obtain ⟨as, r1⟩ := Dp.reads I d x v hd rx
  rcases he with he | he
  · obtain ⟨bs, r2⟩ := Dp.reads I (.list ds) y u he ry
    exact SeqAt.notIn_list_reads r2 r1 (lay_of se) (lay_of1 sd) (room_in2 sd hu) ⟨.bl _, H, I, rfl, q⟩
  · obtain ⟨bs, r2⟩ := Dp.reads I (.tuple ds) y u he ry
    exact SeqAt.notIn_tuple_reads r2 r1 (lay_of se) (lay_of1 sd) (room_in2 sd hu) ⟨.bl _, H, I, rfl, q⟩
def rInX (K : PySem.W.Frag) (neg : Bool) : R2 := fun x y H Q => rIn K neg x y H Q ∨ rInDX K neg x y H Q
theorem hu65 {k : Nat} {A : Around} (hr : Room k A) : A.units + 65 < cLine := by have := hr.un; omega
theorem op_inX {k : Nat} (hr : Room k X.A) : OpR X (compareOp .In) (rInX X.K false) := op_in_seq.or (op_inDX (hu65 hr))
theorem op_notInX {k : Nat} (hr : Room k X.A) : OpR X (compareOp .NotIn) (rInX X.K true) := op_notIn_seq.or (op_notInDX (hu65 hr))
/-- in a dict of the top -/
def rInKX (K : PySem.W.Frag) (neg : Bool) (x : Str) : R2 := fun a b H Q => ∃ (z : Str) (r : Option Value), a = .str z ∧ b = .ref (He.ga K x) ∧ PySem.W.nsIn K (He.ga K x) z = some r ∧ Q (.bl (if neg then !r.isSome else r.isSome)) H
theorem op_inKX {x : Str} (D : ∃ es n, KDict X.K X.w (He.ga X.K x) es n) : OpR X (compareOp .In) (rInKX X.K false x) := by
  obtain ⟨es, n, D⟩ := D
  intro pins s σ H a b v u Q I ra rb h
  obtain ⟨z, r, h1, h2, h3, q⟩ := h
  exact op_in_kd D pins s σ H a b v u Q I ra rb ⟨z, r, h1, h2, h3, q⟩
theorem op_notInKX {x : Str} (D : ∃ es n, KDict X.K X.w (He.ga X.K x) es n) : OpR X (compareOp .NotIn) (rInKX X.K true x) := by
  obtain ⟨es, n, D⟩ := D
  intro pins s σ H a b v u Q I ra rb h
  obtain ⟨z, r, h1, h2, h3, q⟩ := h
  exact op_notIn_kd D pins s σ H a b v u Q I ra rb ⟨z, r, h1, h2, h3, q⟩
/-! ### slices, lengths, calls of built-ins -/
def rSlX (K : PySem.W.Frag) : V → Option Int → Option Int → Hp → VK → Prop := fun x lo hi H Q => rSlL K x lo hi H Q ∨ rSlA K x lo hi H Q
theorem sl_X : SlR X (rSlX X.K) := sl_list.or sl_tupA
def rLenX (K : PySem.W.Frag) : List V → Hp → VK → Prop := fun xs H Q => (∃ p ys, xs = [.ref p] ∧ (SqL K H p ys ∨ SqT K H p ys) ∧ Q (.int ys.length) H) ∨
  ((∃ a kvs, xs = [V.ref a] ∧ H a = some (.dK kvs) ∧ Q (.int kvs.length) H) ∨ rLenT xs H Q)
theorem call_lenX : CallR X (.builtin "len") (rLenX X.K) := call_len_seq.or (call_lenD.or call_len_dT)
abbrev rMin2X : List V → Hp → VK → Prop := fun xs H Q => ∃ i j, xs = [.int i, .int j] ∧ Q (.int (if j < i then j else i)) H
abbrev rMax2X : List V → Hp → VK → Prop := fun xs H Q => ∃ i j, xs = [.int i, .int j] ∧ Q (.int (if j > i then j else i)) H
def rTupX (K : PySem.W.Frag) : List V → Hp → VK → Prop := fun xs H Q => ∃ p ys, xs = [.ref p] ∧ ((SqL K H p ys ∧ ∀ l, H l = none → Q (.ref l) (upd H l (.tup ys))) ∨
  ((SqT K H p ys ∧ Q (.ref p) H) ∨ (SqL K H p ys ∧ ∀ l ob, H l = none → ob.dict = none → Q (.ref l) (upd H l (.frz ob (.tup ys))))))
theorem call_tupX : CallR X (.type "tuple") (rTupX X.K) := by
  intro pins s σ H xs us Q I r h
  obtain ⟨p, ys, rfl, h⟩ := h
  rcases h with h | h | ⟨hq, q⟩
  · exact call_tuple_of pins s σ H _ us Q I r ⟨p, ys, rfl, .inl h⟩
  · exact call_tuple_of pins s σ H _ us Q I r ⟨p, ys, rfl, .inr h⟩
  obtain ⟨u, rfl, rx⟩ := vals1 r
  cases rx
  obtain ⟨its, r', pl, hz⟩ := I.list hq
  have hlen := r'.length
  refine call_tuple_list pl.isList (fun h' kp => ?_) (by simp only [List.size_toArray] <;> omega)
  have I1 : Inv X pins σ H { s with heap := h' } := I.kept (t' := s.toks) kp
  have I2 : Inv X pins σ (upd H h'.objs.size (.frz { cls := .type "tuple", data := .seq its.toArray } (.tup ys))) { s with heap := h'.push { cls := .type "tuple", data := .seq its.toArray } } :=
    I1.laid (t' := s.toks) (fun b o e => Heap.get?_push_of_some _ e) (Nat.le_refl _) (show ObjOk X.prog X.w _ _ _ (.frz _ (.tup ys)) from ⟨Heap.get?_push_size _ rfl, hz, its, r', IsTup.new _ _⟩)
  exact ⟨.ref h'.objs.size, _, I2, rfl, q _ _ (I1.hok.fresh (Nat.le_refl _)) rfl⟩
abbrev rLisX (K : PySem.W.Frag) : List V → Hp → VK → Prop := fun xs H Q => ∃ p ys, xs = [.ref p] ∧ (SqL K H p ys ∨ SqT K H p ys) ∧ ∀ l, H l = none → Q (.ref l) (upd H l (.lst ys))
abbrev rInt1X : List V → Hp → VK → Prop := fun xs H Q => (∃ i, xs = [.int i] ∧ Q (.int i) H) ∨ ∃ k, xs = [.bl k] ∧ Q (.int (if k then 1 else 0)) H
/-- a tuple that is known to have no dict of its own -/
def Fz (H : Hp) (a : Addr) (xs : List V) : Prop := ∃ o, H a = some (.frz o (.tup xs)) ∧ o.dict = none
def rDicX (K : PySem.W.Frag) : List V → Hp → VK → Prop := fun xs H Q => ∃ (a : Addr) (ps : List Addr) (kvs : List (Key × V)), xs = [.ref a] ∧ (SqL K H a (ps.map V.ref) ∨ Fz H a (ps.map V.ref)) ∧ Paired (fun p kv => SqT K H p [kV kv.1, kv.2]) ps kvs ∧ ∀ p, H p = none → Q (.ref p) (upd H p (.dK (mergeK [] kvs)))
theorem call_dicX (hcalm : X.calm = true) : CallR X (.type "dict") (rDicX X.K) := by
  intro pins s σ H xs us Q I r h
  obtain ⟨a, ps, kvs, rfl, hq, hp, q⟩ := h
  rcases hq with hq | ⟨o, hq, hod⟩
  · exact call_dictP hcalm pins s σ H _ us Q I r ⟨a, ps, kvs, rfl, hq, hp, q⟩
  obtain ⟨u, rfl, rx⟩ := vals1 r
  cases rx
  obtain ⟨ho, z, its, rv, ⟨o', ho', hc, n, hd⟩⟩ := I.hok a _ hq
  rw [ho] at ho'
  cases ho'
  have ei := refs_at rv
  subst ei
  obtain ⟨prs, rel, hl, hpr⟩ := pairs_of I hp
  have hz : prs.length ≤ sizeLine := by rw [List.length_map] at z; omega
  -- each item is a pair
  let pk : List (Value × Value) := prs.mapIdx fun j q => (match ps[j]? with
    | some b => (match s.heap.get? b with
      | some ⟨_, _, .seq xs _, _⟩ => xs.getD 0 .none
      | _ => .none)
    | none => .none, q.2)
  have pkl : pk.length = prs.length := List.length_mapIdx ..
  have items : PairItems s.heap (ps.map Value.ref).toArray (fun j => ps.getD j 0) pk := by
    refine ⟨by rw [List.size_toArray, List.length_map, pkl, hl], fun j k v hj => ?_⟩
    rw [List.getElem?_mapIdx] at hj
    obtain ⟨q', hq', e⟩ := Option.map_eq_some_iff.mp hj
    obtain ⟨b, u, e1, e2, e3⟩ := hpr j q' hq'
    obtain ⟨ob, hob, hcb, nb, hdb⟩ := e2
    have ek : k = u ∧ v = q'.2 := by
      rw [e1] at e
      dsimp only at e
      rw [hob] at e
      obtain ⟨c1, c2, c3, c4⟩ := ob
      dsimp only at hdb
      subst hdb
      have := Prod.mk.inj e
      exact ⟨this.1.symm, this.2.symm⟩
    refine ⟨by simp [e1], .inl ?_⟩
    have : ps.getD j 0 = b := by simp [e1]
    show s.heap.IsTuple (ps.getD j 0) #[k, v]
    rw [this, ek.1, ek.2]
    exact ⟨ob, hob, hcb, nb, hdb⟩
  have have_ : PairsHave (mixKind X.prog X.w) pk.length (PairRel pk) prs := by
    refine ⟨pkl.symm, fun j k v hj => ?_⟩
    have hj : pk[j]? = some (k, v) := hj
    rw [List.getElem?_mapIdx] at hj
    obtain ⟨q', hq', e⟩ := Option.map_eq_some_iff.mp hj
    obtain ⟨b, u, e1, e2, e3⟩ := hpr j q' hq'
    obtain ⟨ob, hob, hcb, nb, hdb⟩ := e2
    rw [e1] at e
    dsimp only at e
    rw [hob] at e
    obtain ⟨c1, c2, c3, c4⟩ := ob
    dsimp only at hdb
    subst hdb
    have e := Prod.mk.inj e
    have e4 : u = k := e.1
    have e5 : q'.2 = v := e.2
    subst e4 e5
    exact ⟨q'.1, hq', e3⟩
  refine PySem.call_dict_pairs (knd := mixKind X.prog X.w) (PairArg.tuple a (ps.map Value.ref).toArray (fun j => ps.getD j 0) pk) (I.ok.hd hcalm) ⟨⟨o, n, ho, hc, hod, hd⟩, items⟩ have_ (by rw [pkl]; exact hz) fun h' tk hd' k => ?_
  have hm : (s.heap.objs.size == sysModules) = false := beq_eq_false_iff_ne.mpr (Nat.ne_of_gt I.big)
  have hlen : (mergeK [] kvs).length ≤ sizeLine := by
    refine Nat.le_trans (length_mergeK kvs []) ?_
    rw [List.length_nil, Nat.zero_add, rel.length]
    exact hz
  exact ⟨.ref s.heap.objs.size, upd H s.heap.objs.size (.dK (mergeK [] kvs)), I.laid (t' := tk) (fun b o e => k b o (fun h => nomatch h) e) (Nat.le_refl _) (show ObjOk X.prog X.w _ _ _ (.dK (mergeK [] kvs)) from ⟨hlen, hm, merged [] prs, KV.merge rel .nil, hd'⟩), rfl, q _ (I.hok.fresh (Nat.le_refl _))⟩
/-- sorted(d) of a dict with text keys; sorted(xs) of tuples (text, int): some arrangement -/
def rSortX (K : PySem.W.Frag) : List V → Hp → VK → Prop := fun xs H Q => (∃ (a : Addr) (kvs : List (Key × V)) (ks : List Str), xs = [.ref a] ∧ Rd H a (.dK kvs) ∧ kvs.map (·.1) = ks.map Sum.inr ∧ ks.length < 64 ∧ ∀ ys p, ys.Perm ks → sortedS ys = true → H p = none → Q (.ref p) (upd H p (.lst (ys.map V.str)))) ∨
  (∃ (a : Addr) (ts : List V) (k : V → Str × Int), xs = [.ref a] ∧ SqL K H a ts ∧ (∀ t ∈ ts, ∃ p, t = .ref p ∧ SqT K H p [.str (k t).1, .int (k t).2]) ∧ ts.length ≤ 100000 ∧ ∀ ys p, ys.Perm ts → H p = none → Q (.ref p) (upd H p (.lst ys)))
theorem cr_sortX {k : Nat} (hr : Room k X.A) (hcalm : X.calm = true) : CallR X (.builtin "sorted") (rSortX X.K) := by
  intro pins s σ H vs us Q I r h
  rcases h with h | ⟨a, ts, k, rfl, hs, hx, hlen, q⟩
  · exact call_sortedD hcalm pins s σ H vs us Q I r h
  obtain ⟨its, rv, hl, hz⟩ := I.list hs
  obtain ⟨u, rfl, ru⟩ := vals1 r
  obtain rfl : u = Value.ref a := ru
  obtain ⟨e1, e2⟩ := refs_back rv fun x m => by
    obtain ⟨t, e, _⟩ := hx x m
    exact ⟨t, e⟩
  refine WSort.sorted_pts (k := fun u => k (backV u)) hl.isList (by rw [← rv.length]; exact hz) (fun v hv => ?_) fun h' d out h2 kp hd hn => ?_
  · obtain ⟨t, rfl⟩ := e2 v hv
    have hm : V.ref t ∈ ts := by rw [e1]; exact List.mem_map.mpr ⟨_, hv, rfl⟩
    obtain ⟨t', e, ht⟩ := hx _ hm
    cases e
    obtain ⟨its2, r2, ⟨o, ho, hc, n, hd⟩, _⟩ := I.tuple ht
    obtain ⟨u1, u2, rfl, ri, rj⟩ := vals2 r2
    obtain ⟨t1, rfl⟩ := ri
    obtain ⟨t2, rfl⟩ := rj
    exact ⟨t, o, t1, t2, n, rfl, ho, hc, hd⟩
  · have hpm := h2.perm
    have h3 : ∀ u ∈ out, ∃ a, u = Value.ref a := fun u hu => e2 u (hpm.mem_iff.mp hu)
    obtain ⟨n, hn⟩ := hn
    have hb : (out.map backV).Perm ts := by
      rw [e1]
      exact hpm.map backV
    refine ⟨.ref d, upd H d (.lst (out.map backV)), I.laid (t' := s.toks) kp hd ⟨?_, out, n, vals_back h3, hn⟩, rfl, q _ d hb (I.hok.fresh hd)⟩
    rw [hb.length_eq]
    exact hz
/-- repr of data -/
def rReprX (K : PySem.W.Frag) : List V → Hp → VK → Prop := fun xs H Q => ∃ a d, xs = [.ref a] ∧ Dp K H (.ref a) d ∧ SeqAt.shaped d = true ∧ d.showable = true ∧ d.shown.length ≤ sizeLine ∧ Q (.str d.shown) H
theorem cr_reprX {k : Nat} (hr : Room k X.A) (hg : X.A.guards = some []) : CallR X (.builtin "repr") (rReprX X.K) := by
  intro pins s σ H xs us Q I r h
  obtain ⟨a, d, rfl, hd, hs, hsh, hl, q⟩ := h
  obtain ⟨u, rfl, rx⟩ := vals1 r
  obtain ⟨as, rd⟩ := Dp.reads I d _ u hd rx
  cases rx
  have hdep : d.depth ≤ 64 := by
    unfold SeqAt.shaped at hs
    rw [Bool.and_eq_true, decide_eq_true_eq] at hs
    exact hs.2
  have hun := hr.un
  have hnd := PyData.hasDict_of_canLay d (lay_of1 hs)
  exact repr_of_reads' rd hsh (PyData.noDict_hsm hnd) hg (by omega) (fun _ _ e => e) (fun h' u tk hk => ⟨.str d.shown, H, I.kept (t' := tk) hk, ⟨u, rfl⟩, q⟩) hl
/-- isinstance(x, str): x a text, a number, a tuple -/
def rIsiX (K : PySem.W.Frag) : List V → Hp → VK → Prop := fun xs H Q => ∃ x, xs = [x, .ty "str"] ∧ ((∃ z, x = .str z ∧ Q (.bl true) H) ∨ (∃ i, x = .int i ∧ Q (.bl false) H) ∨ (∃ a ys, x = .ref a ∧ SqT K H a ys ∧ Q (.bl false) H))
theorem call_isiX : CallR X (.builtin "isinstance") (rIsiX X.K) := by
  intro pins s σ H xs us Q I r h
  obtain ⟨x, rfl, h⟩ := h
  rcases h with ⟨z, rfl, q⟩ | ⟨i, rfl, q⟩ | ⟨a, ys, rfl, ht, q⟩
  · exact call_isi pins s σ H _ us Q I r ⟨_, _, _, _, true, rfl, .ty "str", .base (.str z), by rfl, q⟩
  · exact call_isi pins s σ H _ us Q I r ⟨_, _, _, _, false, rfl, .ty "str", .base (.int i), by rfl, q⟩
  · rcases ht with (ht | ⟨o, ht⟩) | ⟨o, its, n, hk, hc, _⟩
    · exact call_isi pins s σ H _ us Q I r ⟨_, _, _, _, false, rfl, .ty "str", .base (.tup ht), by rfl, q⟩
    · exact call_isi pins s σ H _ us Q I r ⟨_, _, _, _, false, rfl, .ty "str", .fTuple ht, by rfl, q⟩
    · exact call_isi pins s σ H _ us Q I r ⟨_, _, _, _, false, rfl, .ty "str", .kTuple hk hc, by rfl, q⟩
/-! ### methods -/
def rExtendX (K : PySem.W.Frag) : V → List V → Hp → VK → Prop := fun x vs H Q => ∃ l b xs zs, x = .ref l ∧ vs = [.ref b] ∧ H l = some (.lst xs) ∧ (H b = some (.lst zs) ∨ SqT K H b zs) ∧ xs.length + zs.length ≤ sizeLine ∧ Q .non (upd H l (.lst (xs ++ zs)))
theorem mt_extendX : MtR X "list.extend" (rExtendX X.K) := by
  intro pins s σ H x vs v us Q I rx rv h
  obtain ⟨l, b, xs, zs, rfl, rfl, hH, hB, hz, q⟩ := h
  rcases hB with hB | hB
  · exact mt_extend pins s σ H _ _ v us Q I rx rv ⟨l, b, xs, zs, rfl, rfl, hH, hB, hz, q⟩
  cases rx
  obtain ⟨u, rfl, ru⟩ := rv.one
  cases ru
  obtain ⟨z, its, n, r, hl, e⟩ := I.lstM hH
  obtain ⟨its2, r2, ⟨o2, e2, c2, n2, d2⟩, z2⟩ := I.tuple hB
  have hl2 := r2.length
  have hmeet : MeetsIn X.prog X.w (Builtin.«list.extend» ⟨[.ref l, .ref b], []⟩) (fun A R s' => s' = s ∧ R (.ok (.ret .none)) { s with heap := s.heap.update l (Obj.mapSeq (· ++ its2.toArray)) }) := by
    intro A R s' hs
    obtain ⟨rfl, hR⟩ := hs
    show wpAny _ A.in1 (Builtin.List.listExtendWith (.ref l) (.ref b) .none) _ _ _
    unfold Builtin.List.listExtendWith
    refine wpAny_bind (wpAny_typeOf ⟨o2, e2, c2⟩ ?_)
    have ht : (Builtin.List.listSameRef (.ref l) (.ref b) || Value.type "tuple" == Value.type "list" || Value.type "tuple" == Value.type "tuple") = true := by simp
    simp only [ht, if_true]
    refine wpAny_bind ?_
    unfold Builtin.List.listItems
    refine wpAny_bind (wpAny_seqItems e2 d2 (wpAny_pure ?_))
    refine wpAny_bind ?_
    refine wpAny_bind (wpAny_seqItems e rfl (wpAny_pure ?_))
    have hsz : its.toArray.size + its2.toArray.size ≤ sizeLine := by rw [List.size_toArray, List.size_toArray]; omega
    have hlong : ¬ (!its.toArray.isEmpty && Builtin.List.listTooLong (its.toArray.size + its2.toArray.size)) = true := by
      rw [notLongL hsz, Bool.and_false]; exact Bool.false_ne_true
    simp only [if_neg hlong]
    show wpAny _ A.in1 (updateSeq l (· ++ its2.toArray) >>= fun _ => ret .none) _ _ _
    refine wpAny_bind (wpAny_updateSeq e rfl ?_ (hz := by rw [List.size_toArray]; omega) (_hz' := by rw [Array.size_append]; omega))
    exact wpAny_pure hR
  refine call_meetsIn F.slot_list_extend ⟨_, e, rfl⟩ F.entry_list_extend (F.args_list_extend_2 _ _) hmeet ⟨rfl, ?_⟩
  refine ⟨.non, _, I.lset (its' := its ++ its2) hH e (by simp) (r.append r2) ?_, rfl, q⟩
  rw [List.length_append]
  omega
def rPopX : V → List V → Hp → VK → Prop := fun x vs H Q => rPop x vs H Q ∨ rPopAt x vs H Q
theorem mt_popX : MtR X "list.pop" rPopX := MtR.or mt_pop mt_popAt
def mergeX {κ : Type} [DecidableEq κ] (a b : List (κ × V)) : List (κ × V) := b.foldl (fun acc q => putK acc q.1 q.2) a
/-- the hash of a tuple of ints and texts -/
def tupH (w : World) (k : List Key) : Int := reduceHash (Builtin.Tuple.tupleHashOf (k.map (keyH w)))
def rUpdateX (w : World) : V → List V → Hp → VK → Prop := fun x vs H Q => ∃ d e, x = .ref d ∧ vs = [.ref e] ∧ d ≠ e ∧
  ((∃ kvs more, H d = some (.dK kvs) ∧ H e = some (.dK more) ∧ kvs.length + more.length ≤ sizeLine ∧ Q .non (upd H d (.dK (mergeX kvs more)))) ∨
    ∃ kvs more, H d = some (.dT kvs) ∧ H e = some (.dT more) ∧ kvs.length + more.length ≤ sizeLine ∧ (kvs ≠ [] ∨ (more.map fun p => tupH w p.1).Nodup) ∧ Q .non (upd H d (.dT (mergeX kvs more))))
theorem kt_merge {H : Hp} {more : List (List Key × V)} {rs : List (List Key × Addr × Value)} (r : KT H more rs) : ∀ {kvs : List (List Key × V)} {vs : List (List Key × Addr × Value)}, KT H kvs vs → KT H (mergeX kvs more) (storedAllH vs rs) := by
  unfold KT at r
  induction r with
  | nil => intro kvs vs q; exact q
  | @cons p q ps qs h t ih =>
    intro kvs vs z
    obtain ⟨k, b, u⟩ := q
    obtain ⟨h1, h2, h3⟩ := h
    obtain ⟨k', y⟩ := p
    have h1 : k' = k := h1
    subst h1
    exact ih (z.put k' h2 h3)
theorem merge_len {κ : Type} [DecidableEq κ] (b : List (κ × V)) : ∀ a : List (κ × V), (mergeX a b).length ≤ a.length + b.length := by
  induction b with
  | nil => intro a; exact Nat.le_refl _
  | cons q b ih =>
    intro a
    have h1 := ih (putK a q.1 q.2)
    have h2 := length_putK a q.1 q.2
    show (mergeX (putK a q.1 q.2) b).length ≤ a.length + (b.length + 1)
    omega
theorem mt_updateX {k : Nat} (hr : Room k X.A) : MtR X "dict.update" (rUpdateX X.w) := by
  intro pins s σ H x vs v us Q I rx rv h
  obtain ⟨d, e, rfl, rfl, hne, h⟩ := h
  cases rx
  obtain ⟨u, rfl, ru⟩ := rv.one
  cases ru
  rcases h with ⟨kvs, more, hd, he, hz, q⟩ | ⟨kvs, more, hd, he, hz, hh, q⟩
  · obtain ⟨z, nd, ds, rel, dd⟩ := dk_of I.hok hd
    obtain ⟨z2, ne, es, rel2, dd2⟩ := dk_of I.hok he
    have hm : ds.length + es.length ≤ sizeLine := by rw [← rel.length, ← rel2.length]; exact hz
    refine call_meetsIn F.slot_dict_update dd.typeIs F.entry_dict_update (F.args_dict_update_2 _ _) (meets_dict_update (mixKind X.prog X.w) d e hne ne) ⟨ds, es, dd, dd2, hm, fun h' dd' _ hs => ?_⟩
    have hx : ∃ q, h'.get? d = some q := let ⟨q, _, _, hq, _⟩ := dd'; ⟨q, hq⟩
    have hl : (mergeX kvs more).length ≤ sizeLine := Nat.le_trans (merge_len more kvs) hz
    exact ⟨.non, _, d_write (t' := s.toks) I (by rw [hd]; exact True.intro) hs hx (dk_new hl nd (KV.merge rel2 rel) dd'), rfl, q⟩
  · obtain ⟨z, nd, ds, rel, dd⟩ := dt_of I.hok hd
    obtain ⟨z2, ne, es, rel2, dd2⟩ := dt_of I.hok he
    have l1 : kvs.length = ds.length := Paired.length rel
    have l2 : more.length = es.length := Paired.length rel2
    have hty : ∀ x ∈ es, s.TypeIs (.ref x.2.1) "tuple" := by
      have key : ∀ {l : List (List Key × V)} {m : List (List Key × Addr × Value)}, KT H l m → ∀ x ∈ m, s.TypeIs (.ref x.2.1) "tuple" := by
        intro l m t
        unfold KT at t
        induction t with
        | nil => intro x hx; cases hx
        | cons h t ih =>
          intro x hx
          rcases List.mem_cons.mp hx with y | y
          · subst y
            obtain ⟨_, _, _, o, ho, hc, _⟩ := I.hok _ _ h.2.1
            exact ⟨o, ho, hc⟩
          · exact ih x y
      exact key rel2
    have hap : ds ≠ [] ∨ ((∀ x ∈ es, s.TypeIs (.ref x.2.1) "tuple") ∧ (es.map fun x => (tupleKind (mixKind X.prog X.w)).hash x.1).Nodup) := by
      rcases hh with hh | hh
      · left
        intro q
        rw [q] at l1
        exact hh (List.length_eq_zero_iff.mp l1)
      · right
        refine ⟨hty, ?_⟩
        have key : ∀ {l : List (List Key × V)} {m : List (List Key × Addr × Value)}, KT H l m → m.map (fun x => (tupleKind (mixKind X.prog X.w)).hash x.1) = l.map fun p => tupH X.w p.1 := by
          intro l m t
          unfold KT at t
          induction t with
          | nil => rfl
          | cons h t ih =>
            rw [List.map_cons, List.map_cons, ih, h.1]
            rfl
        rw [key rel2]
        exact hh
    have hun := hr.un
    refine PySem.call_update_dictH (knd := tupleKind (mixKind X.prog X.w)) (by show X.A.units + 1 < cLine; omega) hne ne dd dd2 hap (by rw [← l1, ← l2]; exact hz) fun h' dd' _ hs => ?_
    obtain ⟨o, es', ep, ho, h2, h3, h4, _, h5⟩ := dd'
    have hl : (mergeX kvs more).length ≤ sizeLine := Nat.le_trans (merge_len more kvs) hz
    have new : ObjOk X.prog X.w (upd H d (.dT (mergeX kvs more))) h' d (.dT (mergeX kvs more)) := by
      refine ⟨hl, nd, _, (kt_merge rel2 rel).keeps fun c ys ec => ?_, o, es', ep, ho, h2, h3, h4, h5⟩
      rw [upd_ne (ne_of ec hd (fun z => nomatch z))]
      exact ec
    exact ⟨.non, _, d_write (t' := s.toks) I (by rw [hd]; exact True.intro) hs ⟨o, ho⟩ new, rfl, q⟩
/-! ### what a for walks -/
def iSeqX (K : PySem.W.Frag) (tl : TE) : TI := fun σ H R => tl σ H fun x H1 => ∃ a, x = .ref a ∧ ((∃ xs, SqL K H1 a xs ∧ R (Itl K a) H1) ∨ (∃ xs, SqT K H1 a xs ∧ R (Itt K a) H1))
theorem seq_fp {pins : List (Addr × Obj)} {σ : L2.St} {H : Hp} {s : Shared} (I : Inv X pins σ H s) : ∀ b ∈ ([s.heap.objs.size] : List Addr), FpOk X pins H b := fun b hb => by
  rw [List.mem_singleton.mp hb]
  exact I.fpOk (Nat.le_refl _) (I.hok.fresh (Nat.le_refl _))
theorem pi_seqX {tg l : Expr} {tl : TE} (h : PE X l tl) : PI X tg l (iSeqX X.K tl) := by
  refine ⟨fun pins s σ H R I q => ?_⟩
  refine thn (h.run pins s σ H _ I q) fun v s1 ⟨x, H1, I1, r1, a, ex, q1⟩ => ?_
  subst ex
  cases r1
  have grown : Inv X pins σ H1 _ := I1.kept (h' := s1.heap.push { cls := .type "list_iterator", data := .fields #[.ref a, .int 0 0] }) (t' := s1.toks) fun b o e => Heap.get?_push_of_some _ e
  have grownT : Inv X pins σ H1 _ := I1.kept (h' := s1.heap.push { cls := .type "tuple_iterator", data := .fields #[.ref a, .int 0 0] }) (t' := s1.toks) fun b o e => Heap.get?_push_of_some _ e
  rcases q1 with ⟨xs, hx, q2⟩ | ⟨xs, hx, q2⟩
  · obtain ⟨its, rv, pl, _⟩ := I1.list hx
    exact wpAny_pyIter_list pl.isList ⟨_, _, _, _, H1, rfl, grown, turn_list a _, ⟨_, Heap.get?_push_size _ rfl, rfl, rfl⟩, seq_fp I1, q2⟩
  · obtain ⟨its, rv, pl, _⟩ := I1.tuple hx
    exact wpAny_pyIter_tuple (show s1.heap.IsTuple a its.toArray from pl) ⟨_, _, _, _, H1, rfl, grownT, turn_tuple a _, ⟨_, Heap.get?_push_size _ rfl, rfl, rfl⟩, seq_fp I1, q2⟩
/-- a text's signs beside a tuple's items -/
def Izs (K : PySem.W.Frag) (z : Str) (b : Addr) : It :=
  ⟨fun i H => ∃ ys : List V, SqT K H b ys ∧ z.cps.size = ys.length ∧ i < ys.length, fun i H v H' => ∃ T x c y, v = .ref T ∧ H T = none ∧ H' = upd H T (.tup [x, y]) ∧ x = .str ⟨#[c]⟩ ∧ z.cps[i]? = some c ∧ ∀ ys, SqT K H b ys → ys[i]? = some y,
    fun i H => ∃ ys : List V, SqT K H b ys ∧ z.cps.size = ys.length ∧ ys.length = i⟩
theorem turn_zipS {P : Program} {w : World} {K : PySem.W.Frag} {elts : List Expr} {kk : Nat} {tpos : Pos} {b z TI TO i1 i2 : Addr} {x : Str} {t : Tok} (SS : ZipSep2 z TI TO i1 i2 [i1] [i2, b]) :
    Turn P w K (.Tuple elts kk tpos) (Izs K x b) [z, TI, TO, i1, i2] z (fun i h => IsZip h z TI TO .none ∧ IsTupOf2 h TI (.ref i1) (.ref i2) ∧ (∃ u v, IsTupOf2 h TO u v) ∧ h.IsStrIter i1 (strIterType x) x t i ∧ h.IsTupleIter i2 b i) where
  mem := List.mem_cons_self ..
  obj := fun i h st c hc => by
    obtain ⟨hz, hTI, ⟨u, v, hTO⟩, ⟨o1, e1, _, d1⟩, ⟨o2, e2, _, d2⟩⟩ := st
    simp only [List.mem_cons, List.mem_nil_iff, or_false] at hc
    rcases hc with q | q | q | q | q <;> rw [q]
    · exact ⟨_, hz, fun v q => by cases q⟩
    · exact ⟨_, hTI, fun v q => by cases q⟩
    · exact ⟨_, hTO, fun v q => by cases q⟩
    · exact ⟨o1, e1, fun v q => by rw [d1] at q; cases q⟩
    · exact ⟨o2, e2, fun v q => by rw [d2] at q; cases q⟩
  keep := fun i h h' st k => by
    obtain ⟨hz, hTI, ⟨u, v, hTO⟩, ⟨o1, e1, c1, d1⟩, h2⟩ := st
    exact ⟨k z (by simp) _ hz, k TI (by simp) _ hTI, ⟨u, v, k TO (by simp) _ hTO⟩, ⟨o1, k i1 (by simp) o1 e1, c1, d1⟩, h2.at fun o q => k i2 (by simp) o q⟩
  item := by
    intro X hP hw hK hc i pins s σ H E I hf st hg
    subst hP hw hK
    obtain ⟨hz, hTI, ⟨x0, y0, hTO⟩, h1, h2⟩ := st
    obtain ⟨ys, hq, hlen, hi⟩ := hg
    obtain ⟨its, rv, p, _⟩ := I.tuple hq
    have hl := rv.length
    have pT : s.heap.IsTuple b its.toArray := p
    have A1 : X.A.in1.handled = none := I.ok.hd hc
    have b2 : b ≠ i2 := fun q => by
      obtain ⟨o1, e1, c1, _⟩ := pT
      obtain ⟨o2, e2, c2, _⟩ := h2
      rw [q, e2] at e1
      cases e1
      rw [c2] at c1
      exact absurd (Value.type.inj c1) (by decide)
    obtain ⟨oi1, hi1, _⟩ := id h1
    obtain ⟨oi2, hi2, _⟩ := id h2
    refine wpAny_pyNext_zipD2_item SS (Draws.text (A := X.A.in1) A1 i1 x t) (Draws.tuple (A := X.A.in1) A1 i2 b b2 its.toArray) hz hTI hTO h1 ⟨h2, pT⟩ (by rw [hlen]; exact hi) (by simp; omega) fun u1 u2 h' tk hx1 hx2 z' TO' st1 st2 hT hsz hk => ?_
    obtain ⟨c, t1, hcp, rfl⟩ := hx1
    have hzl : z < s.heap.objs.size := Heap.lt_size hz
    refine ⟨_, rfl, wpAny_letOwnedTupleGo_zip (s := { s with heap := h', toks := tk }) z' fun h'' z'' sb => ?_⟩
    have hT2 : h''.get? s.heap.objs.size = some { cls := .type "tuple", data := .seq #[.str ⟨#[c]⟩ t1, u2] } := (sb.2 _ (Nat.ne_of_gt hzl)).trans hT
    have hu2 : its[i]? = some u2 := by
      have hx2 : its.toArray[i]? = some u2 := hx2
      simpa using hx2
    obtain ⟨y, hy, ry⟩ : ∃ y, ys[i]? = some y ∧ RelV y u2 := by
      obtain ⟨u, hu, ru⟩ := rv.get (List.getElem?_eq_getElem hi)
      rw [hu2] at hu
      cases hu
      exact ⟨_, List.getElem?_eq_getElem hi, ru⟩
    have new : ObjOk X.prog X.w (upd H s.heap.objs.size (.tup [.str ⟨#[c]⟩, y])) h'' s.heap.objs.size (.tup [.str ⟨#[c]⟩, y]) :=
      ⟨(by decide : 2 ≤ sizeLine), [.str ⟨#[c]⟩ t1, u2], .cons ⟨t1, rfl⟩ (.cons ry .nil), ⟨_, hT2, rfl, _, rfl⟩⟩
    have J : Inv X pins σ (upd H s.heap.objs.size (.tup [.str ⟨#[c]⟩, y])) { s with heap := h'', toks := tk } :=
      I.turnedNew (t' := tk) (ch := [z, TI, TO, i1, i2]) (fun a o hb q => by
        have n1 : a ≠ z := fun e => hb (by simp [e])
        have n2 : a ≠ TO := fun e => hb (by simp [e])
        have n3 : a ≠ i1 := fun e => hb (by simp [e])
        have n4 : a ≠ i2 := fun e => hb (by simp [e])
        exact (sb.2 a n1).trans (hk a o n1 n2 n3 n4 q)) hf (Nat.le_refl _) new
    refine ⟨.ref s.heap.objs.size, _, J, rfl, ⟨_, _, c, y, rfl, I.hok.fresh (Nat.le_refl _), rfl, rfl, hcp, fun l hl => by rw [I.tuple_inj hl hq]; exact hy⟩, ⟨z'', ?_, ⟨_, _, (sb.2 _ SS.TOz).trans TO'⟩, ?_, ?_⟩, fun a ha => ?_⟩
    · exact (sb.2 _ SS.TIz).trans (hk _ _ SS.TIz SS.TITO SS.TIi1 SS.TIi2 hTI)
    · obtain ⟨o1, e1, c1, d1⟩ := st1
      exact ⟨o1, (sb.2 _ SS.zi1.symm).trans e1, c1, d1⟩
    · exact st2.1.at fun o q => (sb.2 _ SS.zi2.symm).trans q
    · rw [upd_ne (fun q => ?_)]
      · exact (hf a ha).1
      · have lt : a < s.heap.objs.size := by
          simp only [List.mem_cons, List.mem_nil_iff, or_false] at ha
          rcases ha with r | r | r | r | r <;> rw [r]
          · exact hzl
          · exact Heap.lt_size hTI
          · exact Heap.lt_size hTO
          · exact Heap.lt_size hi1
          · exact Heap.lt_size hi2
        rw [q] at lt
        exact Nat.lt_irrefl _ lt
  done := by
    intro X hP hw hK hc i pins s σ H E I hf st hg
    subst hP hw hK
    obtain ⟨hz, hTI, ⟨x0, y0, hTO⟩, h1, h2⟩ := st
    obtain ⟨ys, hq, hlen, hi⟩ := hg
    obtain ⟨its, rv, p, _⟩ := I.tuple hq
    have hl := rv.length
    have pT : s.heap.IsTuple b its.toArray := p
    have A1 : X.A.in1.handled = none := I.ok.hd hc
    have b2 : b ≠ i2 := fun q => by
      obtain ⟨o1, e1, c1, _⟩ := pT
      obtain ⟨o2, e2, c2, _⟩ := h2
      rw [q, e2] at e1
      cases e1
      rw [c2] at c1
      exact absurd (Value.type.inj c1) (by decide)
    have hsz : its.toArray.size = i := by simp; omega
    refine wpAny_pyNext_zipD2_end SS (Draws.text (A := X.A.in1) A1 i1 x t) (Draws.tuple (A := X.A.in1) A1 i2 b b2 its.toArray) hz hTI hTO h1 ⟨h2, pT⟩ (by omega) (by omega) (by omega) fun h' tk hk => ⟨rfl, ?_⟩
    exact I.turnedL (t' := tk) (ch := [z, TI, TO, i1, i2]) (fun a o hb q => by
        have n1 : a ≠ z := fun e => hb (by simp [e])
        have n2 : a ≠ TO := fun e => hb (by simp [e])
        have n3 : a ≠ i1 := fun e => hb (by simp [e])
        have n4 : a ≠ i2 := fun e => hb (by simp [e])
        exact hk a o n1 n2 n3 n4 q) hf
  self := fun A i s Q E st h => wpAny_pyIter_zip st.1 h
def iZipX (K : PySem.W.Frag) (ta : TA) : TI := fun σ H R => ta σ H fun vs H1 => (∃ a b xs ys, vs = [.ref a, .ref b] ∧ ((SqL K H1 a xs ∧ SqL K H1 b ys ∧ R (Itz K a b) H1) ∨ (SqT K H1 a xs ∧ SqT K H1 b ys ∧ R (RZ.ItzT K a b) H1))) ∨
  ∃ z b ys, vs = [.str z, .ref b] ∧ SqT K H1 b ys ∧ R (Izs K z b) H1
theorem pi_zipX {X : Cx} {e e2 : Expr} {ta : TA} {p pos tpos : Pos} {elts : List Expr} {kk : Nat} (hg : Gl X "zip") (hm : X.mg "zip" = none) (ha : PA X [e, e2] ta)
    (hs : starEach [e, e2] X.env = (false, eval e X.env) :: starEach [e2] X.env := by rfl) (hpl : (backTo pos (starEach [e2] X.env)).any (·.1) = false := by rfl) :
    PI X (.Tuple elts kk tpos) (.Call (.Name "zip" p) [e, e2] [] pos) (iZipX X.K ta) := by
  refine ⟨fun pins s σ H R I h => ?_⟩
  refine Call_ (ld_blt I hg hm PyProof.Rows.boot_zip (PyProof.Rows.callWith_type1 (thn (ha.run pos pins s σ H _ I h) fun us s1 ⟨vs, H1, I1, r1, q1⟩ => ?_) hs hpl))
  have five : ∀ c, c ∈ [s1.heap.objs.size + 4, s1.heap.objs.size + 2, s1.heap.objs.size + 3, s1.heap.objs.size, s1.heap.objs.size + 1] → FpOk X pins H1 c := fun c hcm => by
    have hle : s1.heap.objs.size ≤ c := by
      simp only [List.mem_cons, List.mem_nil_iff, or_false] at hcm
      rcases hcm with z | z | z | z | z <;> rw [z]
      · exact Nat.le_add_right _ _
      · exact Nat.le_add_right _ _
      · exact Nat.le_add_right _ _
      · exact Nat.le_refl _
      · exact Nat.le_add_right _ _
    exact I1.fpOk hle (I1.hok.fresh hle)
  rcases q1 with ⟨a, b, xs, ys, ex, q1⟩ | ⟨z, b, ys, ex, hq, q⟩
  · subst ex
    obtain ⟨u1, u2, rfl, ra, rb⟩ := vals2 r1
    cases ra
    cases rb
    rcases q1 with ⟨hqx, hqy, q⟩ | ⟨hqx, hqy, q⟩
    · obtain ⟨its, rv, p1, _⟩ := I1.list hqx
      obtain ⟨its2, rv2, p2, _⟩ := I1.list hqy
      refine zip_begins2 (begins_list a its.toArray) (begins_list b its2.toArray) p1.isList p2.isList fun h' hz hTI hTO g1 g2 _ hk => wpAny_pyIter_zip hz ?_
      exact ⟨_, _, _, _, H1, rfl, I1.kept (t' := s1.toks) hk, turn_zip (PySem.W.ktu_apart s1.heap.objs.size a b p1.lt p2.lt), ⟨hz, hTI, ⟨_, _, hTO⟩, ⟨_, g1, rfl, rfl⟩, ⟨_, g2, rfl, rfl⟩⟩, five, q⟩
    · obtain ⟨its, rv, p1, _⟩ := I1.tuple hqx
      obtain ⟨its2, rv2, p2, _⟩ := I1.tuple hqy
      obtain ⟨o1, ho1, _⟩ := id p1
      obtain ⟨o2, ho2, _⟩ := id p2
      refine zip_begins2 (begins_tuple a its.toArray) (begins_tuple b its2.toArray) (show s1.heap.IsTuple a its.toArray from p1) (show s1.heap.IsTuple b its2.toArray from p2) fun h' hz hTI hTO g1 g2 _ hk => wpAny_pyIter_zip hz ?_
      exact ⟨_, _, _, _, H1, rfl, I1.kept (t' := s1.toks) hk, RZ.turn_zipT (PySem.W.ktu_apart s1.heap.objs.size a b (Heap.lt_size ho1) (Heap.lt_size ho2)), ⟨hz, hTI, ⟨_, _, hTO⟩, ⟨_, g1, rfl, rfl⟩, ⟨_, g2, rfl, rfl⟩⟩, five, q⟩
  · subst ex
    obtain ⟨u1, u2, rfl, ra, rb⟩ := vals2 r1
    cases rb
    obtain ⟨t, rfl⟩ := ra
    obtain ⟨its2, rv2, p2, _⟩ := I1.tuple hq
    obtain ⟨o2, ho2, _⟩ := id p2
    have hb : b < s1.heap.objs.size := Heap.lt_size ho2
    refine zip_begins2 (begins_text z t) (begins_tuple b its2.toArray) trivial (show s1.heap.IsTuple b its2.toArray from p2) fun h' hz hTI hTO g1 g2 _ hk => wpAny_pyIter_zip hz ?_
    have SS : ZipSep2 (s1.heap.objs.size + 4) (s1.heap.objs.size + 2) (s1.heap.objs.size + 3) s1.heap.objs.size (s1.heap.objs.size + 1) [s1.heap.objs.size] [s1.heap.objs.size + 1, b] :=
      zip_sep2 (fp1 := []) (fp2 := [b]) (fun _ h => nomatch h) (fun c h => by rw [List.mem_singleton.mp h]; exact hb)
    exact ⟨_, _, _, _, H1, rfl, I1.kept (t' := s1.toks) hk, turn_zipS SS, ⟨hz, hTI, ⟨_, _, hTO⟩, ⟨_, g1, rfl, rfl⟩, ⟨_, g2, rfl, rfl⟩⟩, five, q⟩
/-- enumerate of a list or tuple -/
def IteT (K : PySem.W.Frag) (a : Addr) : It :=
  ⟨fun i H => ∃ (xs : List V) (x : V), SqT K H a xs ∧ xs[i]? = some x, fun i H v H' => ∃ T x, v = .ref T ∧ H T = none ∧ H' = upd H T (.tup [.int i, x]) ∧ ∀ xs, SqT K H a xs → xs[i]? = some x, fun i H => ∃ xs : List V, SqT K H a xs ∧ xs.length ≤ i⟩
def iEnumX (K : PySem.W.Frag) (ta : TA) : TI := fun σ H R => ta σ H fun vs H1 => ∃ a xs, vs = [.ref a] ∧ ((SqL K H1 a xs ∧ R (Ite K a) H1) ∨ (SqT K H1 a xs ∧ R (IteT K a) H1))
/-! ### enumerate of a tuple, zip of a text and a tuple -/
set_option maxHeartbeats 1000000 in
theorem enumerate_new1 {v : Value} {o : Obj} {H : Heap → Prop} (B : Begins v o H) :
    Meets (Builtin.«enumerate.__new__» ⟨[.type "enumerate", v], []⟩) (fun _ R s => H s.heap ∧
      R (.ok (.ret (.ref (s.heap.push o).objs.size))) { s with heap := (s.heap.push o).push { cls := .type "enumerate", data := .fields #[.none, .bool false, .ref s.heap.objs.size, rawInt 0, .none, .none] } }) :=
  .of_wp fun prog w A R s hyp => by
    obtain ⟨hp, g, d, tk, os⟩ := s
    obtain ⟨hh, hR⟩ := hyp
    have isSub := sub_enumerate
    have first : ∀ {A' : Around} {E : Value → Shared → Prop} {Q : Value → Shared → Prop}, Q (.ref hp.objs.size) ⟨hp.push o, g, d, tk, os⟩ → wpAny (model prog w) A' (pyIter v) Q E ⟨hp, g, d, tk, os⟩ :=
      fun q => B.iter prog w _ _ ⟨hp, g, d, tk, os⟩ _ hh q
    wp_walk using first
    refine wpAny_stack_any fun st => wpAny_pure ?_
    split
    · rename_i c _ _ _ _ _
      cases (c == Value.type "enumerate") <;> (wp_walk using first; exact ⟨_, rfl, hR⟩)
    · wp_walk using first
      exact ⟨_, rfl, hR⟩
theorem enum_make {prog : Program} {w : World} {A : Around} {E : Value → Shared → Prop} {s : Shared} {v : Value} {o : Obj} {H : Heap → Prop} {Q : Value → Shared → Prop} (B : Begins v o H) (hh : H s.heap)
    (k : ∀ h', IsEnum h' (s.heap.objs.size + 1) s.heap.objs.size 0 .none → h'.get? s.heap.objs.size = some o → (∀ b u, s.heap.get? b = some u → h'.get? b = some u) → Q (.ref (s.heap.objs.size + 1)) { s with heap := h' }) :
    wpAny (model prog w) A (call (.type "enumerate") [v]) Q E s := by
  refine callType_new F.called_enumerate (by decide) (F.typeCall_enumerate_1 _) (F.newCall_enumerate_1 _) (fun obj => F.args_object_init_2 obj _) F.entry_enumerate_new (enumerate_new1 B) ⟨hh, ?_⟩
  have size1 : (s.heap.push o).objs.size = s.heap.objs.size + 1 := Heap.size_push ..
  have here : IsEnum ((s.heap.push o).push { cls := .type "enumerate", data := .fields #[.none, .bool false, .ref s.heap.objs.size, rawInt 0, .none, .none] }) (s.heap.push o).objs.size s.heap.objs.size 0 .none := Heap.get?_push_size _ rfl
  rw [size1] at here
  show _ ∧ _
  rw [size1]
  exact ⟨⟨_, here, rfl⟩, k _ here (Heap.get?_push_of_some _ (Heap.get?_push_size _ B.free)) fun b u z => Heap.get?_push_of_some _ (Heap.get?_push_of_some _ z)⟩
theorem turn_enumT {P : Program} {w : World} {K : PySem.W.Frag} {elts : List Expr} {kk : Nat} {tpos : Pos} (a e it : Addr) :
    Turn P w K (.Tuple elts kk tpos) (IteT K a) [e, it] e (fun i h => (∃ old, IsEnum h e it ((i : Nat) : Int) old) ∧ h.IsTupleIter it a i ∧ e ≠ it) where
  mem := List.mem_cons_self ..
  obj := fun i h st b hb => by
    obtain ⟨⟨old, he⟩, ⟨o, ho, hc, hd⟩, _⟩ := st
    rcases List.mem_cons.mp hb with z | z
    · exact ⟨_, by rw [z]; exact he, fun v q => by cases q⟩
    · rw [List.mem_singleton.mp z]
      exact ⟨o, ho, fun v q => by rw [hd] at q; cases q⟩
  keep := fun i h h' st k => ⟨st.1.imp fun old he => k e (List.mem_cons_self ..) _ he, st.2.1.at fun o q => k it (by simp) o q, st.2.2⟩
  item := by
    intro X hP hw hK hc i pins s σ H E I hf st hg
    subst hP hw hK
    obtain ⟨⟨old, he⟩, hit, hne⟩ := st
    obtain ⟨xs, x, hq, hx⟩ := hg
    obtain ⟨its, rv, p, _⟩ := I.tuple hq
    obtain ⟨u, hu, ru⟩ := rv.get hx
    have hel : e < s.heap.objs.size := Heap.lt_size he
    have pT : s.heap.IsTuple a its.toArray := p
    have ane : a ≠ it := fun z => by
      obtain ⟨o1, h1, c1, _⟩ := pT
      obtain ⟨o2, h2, c2, _⟩ := hit
      rw [z, h2] at h1
      cases h1
      rw [c2] at c1
      exact absurd (Value.type.inj c1) (by decide)
    have ene : e ∉ ([it, a] : List Addr) := fun z => by
      rcases List.mem_cons.mp z with q | q
      · exact hne q
      · have q := List.mem_singleton.mp q
        obtain ⟨o1, h1, c1, _⟩ := pT
        rw [← q, he] at h1
        cases h1
        exact absurd (Value.type.inj c1) (by decide)
    have hi : i < its.toArray.size := by
      have := (List.getElem?_eq_some_iff.mp hu).1
      simpa using this
    refine wpAny_pyNext_enum_itemD (Draws.tuple (A := X.A.in1) (I.ok.hd hc) it a ane its.toArray) he ⟨hit, pT⟩ hi hne ene fun y h' tk hy ho hst hT hsz hk => ?_
    have ey : y = u := by
      have hy : its.toArray[i]? = some y := hy
      have hu' : its.toArray[i]? = some u := by simpa using hu
      rw [hu'] at hy
      exact (Option.some.inj hy).symm
    subst ey
    refine ⟨_, rfl, wpAny_letOwnedTupleGo_enum (s := { s with heap := h', toks := tk + 1 }) ho fun h'' he' sb => ?_⟩
    have tup : h''.get? s.heap.objs.size = some { cls := .type "tuple", data := .seq #[.int i tk, y] } := (sb.2 _ (Nat.ne_of_gt hel)).trans hT
    have new : ObjOk X.prog X.w (upd H s.heap.objs.size (.tup [.int (i : Nat), x])) h'' s.heap.objs.size (.tup [.int (i : Nat), x]) :=
      ⟨(by decide : 2 ≤ sizeLine), [.int i tk, y], .cons ⟨_, rfl⟩ (.cons ru .nil), ⟨_, tup, rfl, _, rfl⟩⟩
    have J : Inv X pins σ (upd H s.heap.objs.size (.tup [.int (i : Nat), x])) { s with heap := h'', toks := tk + 1 } :=
      I.turnedNew (ch := [e, it]) (fun b ob hb q => by
        have n1 : b ≠ e := fun z => hb (by simp [z])
        have n2 : b ≠ it := fun z => hb (by simp [z])
        exact (sb.2 b n1).trans (hk b ob n1 n2 q)) hf (Nat.le_refl _) new
    refine ⟨.ref s.heap.objs.size, _, J, rfl, ⟨_, x, rfl, I.hok.fresh (Nat.le_refl _), rfl, fun ys hy' => by rw [I.tuple_inj hy' hq]; exact hx⟩, ⟨⟨y, ?_⟩, hst.1.at fun o q => (sb.2 it (Ne.symm hne)).trans q, hne⟩, fun b hb => ?_⟩
    · have c1 : ((i + 1 : Nat) : Int) = (i : Int) + 1 := by omega
      rw [c1]
      exact he'
    · rw [upd_ne (fun z => ?_)]
      · exact (hf b hb).1
      · have hit' : it < s.heap.objs.size := by obtain ⟨_, q, _⟩ := hit; exact Heap.lt_size q
        rcases List.mem_cons.mp hb with q | q
        · rw [← z, q] at hel
          exact Nat.lt_irrefl _ hel
        · have q := List.mem_singleton.mp q
          rw [← z, q] at hit'
          exact Nat.lt_irrefl _ hit'
  done := by
    intro X hP hw hK hc i pins s σ H E I hf st hg
    subst hP hw hK
    obtain ⟨⟨old, he⟩, hit, hne⟩ := st
    obtain ⟨xs, hq, hx⟩ := hg
    obtain ⟨its, rv, p, _⟩ := I.tuple hq
    have pT : s.heap.IsTuple a its.toArray := p
    obtain ⟨f0, f1, f2, f3, f4, f5⟩ := hf it (by simp)
    have hl := rv.length
    have hT : s.TypeIs (.ref e) "enumerate" := ⟨_, he, rfl⟩
    unfold pyNext
    refine wpAny_bind (wpAny_attempt (wpAny_callSpecial?_slot (name := Str.ofString "__next__") hT F.slot_enumerate_next
      (wpAny_call_entry F.slot_enumerate_next hT F.entry_enumerate_next ?_ (F.args_enumerate_next_1 _))))
    show wpAny _ _ (field (.ref e) 2 >>= _) _ _ _
    refine wpAny_bind (wpAny_field he rfl (x := .ref it) rfl ?_)
    refine wpAny_bind (wpAny_nextOf_tuple_end (A := X.A.in1) (I.ok.hd hc) hit pT (by simp; omega) fun h' y eb hy => ?_)
    obtain ⟨o, ho, hcl⟩ := hy
    refine wpAny_bind (wpAny_isInstance (T := "StopIteration") (b := true) ⟨o, ho, hcl⟩ isSubtype_stop ?_)
    exact wpAny_pure ⟨rfl, I.turned (t' := s.toks) (fun b o hb q => eb b o hb q) f0 f1 f3 f4 f5⟩
  self := fun A i s Q E st h => st.1.elim fun _ he => wpAny_pyIter_enum he h
theorem pi_enumX {X : Cx} {e : Expr} {ta : TA} {p pos tpos : Pos} {elts : List Expr} {kk : Nat} (hg : Gl X "enumerate") (hm : X.mg "enumerate" = none) (ha : PA X [e] ta) (hs : starEach [e] X.env = [(false, eval e X.env)] := by rfl) :
    PI X (.Tuple elts kk tpos) (.Call (.Name "enumerate" p) [e] [] pos) (iEnumX X.K ta) := by
  refine ⟨fun pins s σ H R I h => ?_⟩
  refine Call_ (ld_blt I hg hm boot_enumerate (PyProof.Rows.callWith_type1 (thn (ha.run pos pins s σ H _ I h) fun us s1 ⟨vs, H1, I1, r1, q1⟩ => ?_) hs rfl))
  obtain ⟨a, xs, ex, hq⟩ := q1
  subst ex
  obtain ⟨u, rfl, ru⟩ := vals1 r1
  cases ru
  have cellsOk : ∀ b ∈ ([s1.heap.objs.size + 1, s1.heap.objs.size] : List Addr), FpOk X pins H1 b := fun b hb => by
    have hle : s1.heap.objs.size ≤ b := by
      rcases List.mem_cons.mp hb with z | z
      · rw [z]; exact Nat.le_succ _
      · rw [List.mem_singleton.mp z]; exact Nat.le_refl _
    exact I1.fpOk hle (I1.hok.fresh hle)
  rcases hq with ⟨hq, q⟩ | ⟨hq, q⟩
  · obtain ⟨its, rv, pl, _⟩ := I1.list hq
    refine enum_make (begins_list a its.toArray) pl.isList fun h' he hit hk => wpAny_pyIter_enum he ?_
    exact ⟨_, _, _, _, H1, rfl, I1.kept (t' := s1.toks) hk, turn_enum a _ _, ⟨⟨.none, he⟩, ⟨_, hit, rfl, rfl⟩, Nat.succ_ne_self _⟩, cellsOk, q⟩
  · obtain ⟨its, rv, pl, _⟩ := I1.tuple hq
    refine enum_make (begins_tuple a its.toArray) (show s1.heap.IsTuple a its.toArray from pl) fun h' he hit hk => wpAny_pyIter_enum he ?_
    exact ⟨_, _, _, _, H1, rfl, I1.kept (t' := s1.toks) hk, turn_enumT a _ _, ⟨⟨.none, he⟩, ⟨_, hit, rfl, rfl⟩, Nat.succ_ne_self _⟩, cellsOk, q⟩
/-! ### name = {..} on one line, the name a local -/
theorem sw_trueD {kx vx : Expr} {gs : List Comprehension} {scope : Scope} {pos py : Pos} {y : Str} {l : Nat} {env : Env} (hk : env.scope.kind = .function) (hy : env.scope.names.lookup y = some .local) (hl : (py.line == pos.line) = true)
    (ha : (scope.names.any fun (n, k) => n == y && (k == .local || k == .cell)) = false) : swapsWith (.DictComp kx vx gs scope pos) (some (.Name y py)) l env = pure true := by
  have k1 : env.kindOf y = some .local := hy
  have k2 : env.blockKind = .function := by
    unfold Env.blockKind
    rw [hk]
    rfl
  unfold swapsWith
  simp only [k2, k1, ha, Expr.pos, hl]
  rfl
theorem ps_setDc {i : Nat} {y : Str} {py : Pos} {kx vx tg iter : Expr} {ifs : List Expr} {scope : Scope} {own : List (Str × Nat)} {pos spos : Pos} {wi : TI} {g : TG} {tt : TT} {tk tv : TE} (hc : X.calm = true) (hN : X.N.Nodup) (hy : X.N[i]? = some y) (hyl : X.env.scope.names.lookup y = some .local)
    (hsw : swapsWith (.DictComp kx vx [⟨tg, iter, ifs, 0⟩] scope pos) (some (.Name y py)) spos.line X.env = pure true) (hi : PI X tg iter wi) (ok : BlkOk X.N X.env.scope scope own)
    (hg : ∀ (s : Shared) (H : Hp) (C : Addr) (cl : List (Str × Addr)) (fp : List Addr), PG (X.blk s H scope (compEnvC scope cl C X.env) fp) tg g) (ht : ∀ (s : Shared) (H : Hp) (C : Addr) (cl : List (Str × Addr)) (fp : List Addr), PTs (X.blk s H scope (compEnvC scope cl C X.env) fp) ifs tt)
    (hk : ∀ (s : Shared) (H : Hp) (C : Addr) (cl : List (Str × Addr)) (fp : List Addr), PE (X.blk s H scope (compEnvC scope cl C X.env) fp) kx tk)
    (he : ∀ (s : Shared) (H : Hp) (C : Addr) (cl : List (Str × Addr)) (fp : List Addr), PE (X.blk s H scope (compEnvC scope cl C X.env) fp) vx tv) (hs : ∀ x, foldedSetIterable iter X.env x = pure x := by intro _; rfl) :
    PS X (.Assign [.Name y py] (.DictComp kx vx [⟨tg, iter, ifs, 0⟩] scope pos) spos) (tAsg (tDc wi g tt tk tv (own.map (·.2))) (gName i)) := by
  refine ⟨fun pins s σ H D I h => ?_⟩
  rw [exec_Assign_Name_used _ _ _ _ hsw]
  refine wpAny_bind (wpAny_standAt (wpAny_bind ?_))
  show wpAny _ X.A (do let _ ← comprehension (.DictComp kx vx [⟨tg, iter, ifs, 0⟩] scope pos) scope X.env (firstIterPos [⟨tg, iter, ifs, 0⟩] pos) newDict false (eval iter X.env) (some (assign (.Name y py) X.env))) _ _ s
  have h : tDc wi g tt tk tv (own.map (·.2)) σ H (fun x H1 => gName i x σ H1 D.nx) := h
  refine wpAny_bind (thn (dc_core (Qf := fun _ s' => SP X pins D .next s') hc hN I hi ok hg ht hk he hs h fun L C s' m H' I' q hn f => ?_) fun _ s' hq => wpAny_pure (wpAny_pure hq))
  show wpAny _ _ (assign (.Name y py) X.env (.ref L)) _ _ _
  refine wpAny_assign_Name (store_ok2 (v := V.ref L) I' hN hy (.inl hyl) rfl (fun s2 I2 ⟨a, sb, ha⟩ => ?_) (.inr hyl))
  obtain ⟨f0, f1, f2, f3, f4, f5⟩ := f
  have haC : C ≠ a := by
    rcases ha with z | z
    · rw [z]
      exact f1
    · exact fun e => f4 y a z e.symm
  refine ⟨m, hn.sameBut sb haC, fun h3 sb3 => ?_⟩
  exact ⟨_, H', I2.turned (t' := s2.toks) (fun b o hb e => (sb3.2 b hb).trans e) f0 f1 f3 f4 f5, q⟩
/-! ### a dict comprehension whose keys are tuples -/
def tDcT (wi : TI) (g : TG) (tt : TT) (tk tv : TE) (vs : List Nat) : TE := fun σ H Q => wi σ H fun J H1 => ∀ D, H1 D = none → ∃ W : Nat → Nat → Hp → Prop, (∃ m, W 0 m (upd H1 D (.dT []))) ∧ ∀ i m H, W i m H →
  (J.stop i H ∧ Q (.ref D) H) ∨ (J.go i H ∧ ∃ Nx : Hp → Prop, (∀ H', Nx H' → ∃ m', m' < m ∧ W (i + 1) m' H') ∧ ∀ x H', J.yld i H x H' → g x (wipe σ vs) H' fun σ2 H2 => wipe σ2 vs = wipe σ vs ∧ tt σ2 H2 fun b H3 =>
    if b = true then tk σ2 H3 fun y H4 => tv σ2 H4 fun z H5 => ∃ kvs k b, y = .ref b ∧ H5 b = some (.tup (k.map kV)) ∧ H5 D = some (.dT kvs) ∧ kvs.length < sizeLine ∧ Nx (upd H5 D (.dT (putK kvs k z))) else Nx H3)
/-! ### {k: v for ..}, the keys tuples -/
/-- d[k] = v by a comprehension, k a tuple -/
theorem dT_set {X : Cx} {pins : List (Addr × Obj)} {σ : L2.St} {H : Hp} {s : Shared} {E : Value → Shared → Prop} {D b : Addr} {kvs : List (List Key × V)} {k : List Key} {v : V} {r : Value} {Q : Unit → Shared → Prop} (hu : X.A.units + 1 < cLine) (I : Inv X pins σ H s)
    (hD : H D = some (.dT kvs)) (hz : kvs.length < sizeLine) (hb : H b = some (.tup (k.map kV))) (rv : RelV v r) (h : ∀ s', Inv X pins σ (upd H D (.dT (putK kvs k v))) s' → Q () s') : wpAny (model X.prog X.w) X.A (dictSet D (.ref b) r) Q E s := by
  obtain ⟨z, nd, xs, rel, dd⟩ := dt_of I.hok hD
  have l1 : xs.length ≤ sizeLine := by rw [← Paired.length rel]; exact z
  have l2 : (putK kvs k v).length ≤ sizeLine := by have := length_putK kvs k v; omega
  refine wpAny_dictSet_heap (hsz := l1) (show (tupleKind (mixKind X.prog X.w)).room X.A from by show X.A.units < cLine; omega) (key_of I.hok hb) dd fun h' dd' hs => h _ ?_
  obtain ⟨o, es, ep, ho, h2, h3, h4, _, h5⟩ := dd'
  have new : ObjOk X.prog X.w (upd H D (.dT (putK kvs k v))) h' D (.dT (putK kvs k v)) := by
    refine ⟨l2, nd, _, (rel.put k hb rv).keeps fun c ys ec => ?_, o, es, ep, ho, h2, h3, h4, h5⟩
    rw [upd_ne (ne_of ec hD (fun q => by cases q))]
    exact ec
  exact d_write I (by rw [hD]; exact True.intro) hs ⟨o, ho⟩ new
/-- what the block's turns are to keep: the iterator's cells are its own, W tells the turn -/
abbrev Kept (Y : Cx) (τ : L2.St) (tn : Nat → Heap → Prop) (fp : List Addr) (W : Nat → Nat → Hp → Prop) (n : Nat) (s : Shared) : Prop :=
  ∃ i H, Inv Y [] τ H s ∧ tn i s.heap ∧ (∀ b ∈ fp, H b = none) ∧ W i n H
theorem pe_dcT {kx vx tg iter : Expr} {ifs : List Expr} {scope : Scope} {own : List (Str × Nat)} {pos : Pos} {wi : TI} {g : TG} {tt : TT} {tk tv : TE} {kr : Nat} (hr : Room kr X.A) (hc : X.calm = true) (hN : X.N.Nodup) (hi : PI X tg iter wi) (ok : BlkOk X.N X.env.scope scope own)
    (hg : ∀ (s : Shared) (H : Hp) (C : Addr) (cl : List (Str × Addr)) (fp : List Addr), PG (X.blk s H scope (compEnvC scope cl C X.env) fp) tg g) (ht : ∀ (s : Shared) (H : Hp) (C : Addr) (cl : List (Str × Addr)) (fp : List Addr), PTs (X.blk s H scope (compEnvC scope cl C X.env) fp) ifs tt)
    (hk : ∀ (s : Shared) (H : Hp) (C : Addr) (cl : List (Str × Addr)) (fp : List Addr), PE (X.blk s H scope (compEnvC scope cl C X.env) fp) kx tk)
    (he : ∀ (s : Shared) (H : Hp) (C : Addr) (cl : List (Str × Addr)) (fp : List Addr), PE (X.blk s H scope (compEnvC scope cl C X.env) fp) vx tv) (hs : ∀ x, foldedSetIterable iter X.env x = pure x := by intro _; rfl) :
    PE X (.DictComp kx vx [⟨tg, iter, ifs, 0⟩] scope pos) (tDcT wi g tt tk tv (own.map (·.2))) := by
  refine ⟨fun pins s σ H Q I h => ?_⟩
  rw [arm_eval_DictComp]
  have frees : ∀ y ∈ scope.names, y.2 = .free → ∃ c, X.env.cells.lookup y.1 = some c := fun y hy e => by
    rcases ok.free y hy e with z | z
    · exact I.ok.has _ (.inl z)
    · exact I.ok.has _ (.inr z)
  refine wpAny_comprehension_free (use := none) rfl hs (closure_ok frees) ok.kind (fun y hy e => by rw [ok.uniq y hy, e]) (thn (hi.run pins s σ H _ I h) fun xv s1 hx => thn hx fun itv s2 h2 => ?_)
  obtain ⟨it, fp, tn, J, H2, rfl, I2, T, st2, f2, q⟩ := h2
  refine wpAny_newObj_type (newEnv_comp ?_)
  -- the new dict
  generalize hD : s2.heap.objs.size = D
  have hDn : H2 D = none := I2.hok.fresh (by rw [hD]; exact Nat.le_refl _)
  obtain ⟨W, ⟨m0, w0⟩, turn⟩ := q D hDn
  generalize hs3 : ({ s2 with heap := s2.heap.push { cls := .type "dict", data := .dict #[] } } : Shared) = s3
  have h3 : s3.heap = s2.heap.push { cls := .type "dict", data := .dict #[] } := by rw [← hs3]
  have I3 : Inv X pins σ (upd H2 D (.dT [])) s3 := by
    rw [← hs3]
    refine I2.laid (t' := s2.toks) (fun b o e => Heap.get?_push_of_some _ e) (by rw [hD]; exact Nat.le_refl _) ?_
    rw [← hD]
    exact dt_empty s2.heap I2.big
  have f3 : ∀ b ∈ fp, FpOk X pins (upd H2 D (.dT [])) b ∧ b < s3.heap.objs.size := fun b hb => by
    have lt : b < s2.heap.objs.size := (T.obj _ _ st2 b hb).elim fun o z => Heap.lt_size z.1
    refine ⟨⟨?_, (f2 b hb).2⟩, ?_⟩
    · rw [hD] at lt
      rw [upd_ne (Nat.ne_of_lt lt)]
      exact (f2 b hb).1
    · rw [h3, Heap.size_push]
      exact Nat.lt_succ_of_lt lt
  have I4 := block_start I3 ok hN f3
  have forms := And.intro (hg s3 (upd H2 D (.dT [])) s3.heap.objs.size (cellsFrom (s3.heap.objs.size + 1) scope.names (cloFrom X.env.cells scope.names [])) fp)
    (And.intro (ht s3 (upd H2 D (.dT [])) s3.heap.objs.size (cellsFrom (s3.heap.objs.size + 1) scope.names (cloFrom X.env.cells scope.names [])) fp)
    (And.intro (hk s3 (upd H2 D (.dT [])) s3.heap.objs.size (cellsFrom (s3.heap.objs.size + 1) scope.names (cloFrom X.env.cells scope.names [])) fp)
      (he s3 (upd H2 D (.dT [])) s3.heap.objs.size (cellsFrom (s3.heap.objs.size + 1) scope.names (cloFrom X.env.cells scope.names [])) fp)))
  show codeAny _ _ (.compStart _ 0 (.ref it) (.ref D) (compEnvC scope (cellsFrom (s3.heap.objs.size + 1) scope.names (cloFrom X.env.cells scope.names [])) s3.heap.objs.size X.env)) (compPost _ _ _ _ _ (.ref D) s3.heap.objs.size) { s3 with heap := pushCells (s3.heap.push { cls := .type "dict", data := .dict #[] }) scope.names }
  generalize hce : compEnvC scope (cellsFrom (s3.heap.objs.size + 1) scope.names (cloFrom X.env.cells scope.names [])) s3.heap.objs.size X.env = ce at I4 forms ⊢
  have own_L : ce.locals = s3.heap.objs.size := by rw [← hce]; rfl
  have nfp : ∀ b ∈ fp, (upd H2 D (.dT [])) b = none := fun b hb => (f3 b hb).1.1
  generalize upd H2 D (.dT []) = H3 at I3 I4 forms w0 nfp f3
  have st3 : tn 0 s3.heap := T.keep _ _ _ st2 fun b _ o e => by rw [h3]; exact Heap.get?_push_of_some _ e
  have st4 : tn 0 (pushCells (s3.heap.push { cls := .type "dict", data := .dict #[] }) scope.names) := T.keep _ _ _ st3 fun b _ o e => pushCells_keeps _ _ _ _ (Heap.get?_push_of_some _ e)
  obtain ⟨pg, pt, pk, pe⟩ := forms
  have stat : ∀ {τ : L2.St} {H' : Hp} {s' : Shared}, Inv (X.blk s3 H3 scope ce fp) [] τ H' s' → (∀ b ∈ fp, H' b = none) → ∀ b ∈ fp, FpOk (X.blk s3 H3 scope ce fp) [] H' b :=
    fun I' hn b hb => ⟨hn b hb, (I'.ok.exf b hb).1, I'.ok.exfs b hb, .inl hb, fun x c e => (I'.ok.exf b hb).2 x c e, fun p hp => (by cases hp)⟩
  -- a turn, and the end
  have run : codeAny (model X.prog X.w) X.A (.compLoop (.DictComp kx vx [⟨tg, iter, ifs, 0⟩] scope pos) 0 (.ref it) (.ref D) ce) (compPost (model X.prog X.w) X.A X.xe none (EP X pins σ Q) (.ref D) s3.heap.objs.size) { s3 with heap := pushCells (s3.heap.push { cls := .type "dict", data := .dict #[] }) scope.names } := by
    refine compLoop_anyD (Kept (X.blk s3 H3 scope ce fp) (wipe σ (own.map (·.2))) tn fp W) (fun n s5 ⟨i, H5, I5, st5, n5, w5⟩ => ?_) m0 ⟨0, H3, I4, st4, nfp, w0⟩
    rcases turn i n H5 w5 with ⟨stop, qq⟩ | ⟨go, Nx, hNx, step⟩
    · refine thnF (T.done (X.blk s3 H3 scope ce fp) rfl rfl rfl hc i [] s5 _ H5 (fun _ _ => False) I5 (stat I5 n5) st5 stop) fun r s6 ⟨hr6, I6⟩ => ?_
      subst hr6
      have back : Inv X pins σ H5 s6 := I3.call' (ch := fp) I6.os I6.base I6.hok I6.bare fun b hb => ⟨(f3 b hb).1.2.2.2.1, (f3 b hb).1.2.1, (f3 b hb).1.2.2.2.2.1, (f3 b hb).1.2.2.2.2.2⟩
      have fr : H5 ce.locals = none := I6.free
      obtain ⟨m, hn, _⟩ := I6.loc
      have hn : s6.heap.Ns ce.locals m := hn
      rw [own_L] at fr hn
      obtain ⟨f0, f1, _, f3', f4, f5⟩ := I3.fpOk (Nat.le_refl _) fr
      exact ⟨m, hn, fun h'' sb => ⟨.ref D, H5, back.turned (t' := s6.toks) (fun b o hb e => (sb.2 b hb).trans e) f0 f1 f3' f4 f5, rfl, qq⟩⟩
    · refine thnF (T.item (X.blk s3 H3 scope ce fp) rfl rfl rfl hc i [] s5 _ H5 (fun _ _ => False) I5 (stat I5 n5) st5 go) fun r s6 ⟨u, hr6, h6⟩ => ?_
      subst hr6
      refine thnF h6 fun _ s7 ⟨x, H7, I7, r7, y7, st7, n7⟩ => ?_
      refine thnF (pg.run _ s7 _ H7 x u _ (I7.pinned (stat I7 n7) (T.obj _ _ st7)) r7 (step x H7 y7)) fun _ s8 ⟨σ8, H8, I8, hw8, q8⟩ => ?_
      refine thnF (pt.run _ s8 σ8 H8 _ I8 q8) fun b s9 ⟨H9, I9, q9⟩ => ?_
      have next : ∀ {s' : Shared} {H' : Hp}, Inv (X.blk s3 H3 scope ce fp) ([] ++ pinsAt fp s7.heap) σ8 H' s' → Nx H' → ∃ m, m < n ∧ Kept (X.blk s3 H3 scope ce fp) (wipe σ (own.map (·.2))) tn fp W m s' := fun {s' H'} I' nx => by
        obtain ⟨m', hm, w'⟩ := hNx H' nx
        have same : ∀ b ∈ fp, ∀ o, s7.heap.get? b = some o → s'.heap.get? b = some o ∧ H' b = none := fun b hb o e =>
          (I'.pin (b, o) (List.mem_append_right _ (List.mem_append_right _ (mem_pinsAt hb e)))).imp id And.left
        refine ⟨m', hm, i + 1, H', (I'.unpinned (pins := [])).weak (by rw [← hw8, wipe_length]) (fun j v e => ?_), T.keep _ _ _ st7 fun b hb o e => (same b hb o e).1, fun b hb => ?_, w'⟩
        · rw [← hw8] at e
          exact (wipe_some e).1
        · obtain ⟨o, e, _⟩ := T.obj _ _ st7 b hb
          exact (same b hb o e).2
      cases b with
      | false => exact next I9 q9
      | true =>
        refine thnF (pk.run _ s9 σ8 H9 _ I9 q9) fun z s10 ⟨yk, H10, I10, r10, q10⟩ => ?_
        refine thnF (pe.run _ s10 σ8 H10 _ I10 q10) fun z2 s11 ⟨yv, H11, I11, r11, kvs, k, bb, ek, hb11, hD11, hz11, nx⟩ => ?_
        subst ek
        cases r10
        have hun := hr.un
        exact dT_set (X := X.blk s3 H3 scope ce fp) (by show X.A.units + 1 < cLine; omega) I11 hD11 hz11 hb11 r11 fun s12 I12 => next I12 nx
  exact codeAny_compStart_dict run (T.self X.A 0 _ _ _ st4 run)
/-! ### calls -/
/-- a call of a local name that holds one of some defs -/
def tCallX (i : Nat) (S : Addr → Sp → Prop) (t : TA) : TE := fun σ H Q => ∃ f sp, S f sp ∧ σ[i]? = some (some (.ref f)) ∧ t σ H fun vs H1 => sp vs H1 Q E0
theorem pe_callX {i k j : Nat} {S : Addr → Sp → Prop} {x : Str} {p pos : Pos} {e : Expr} {es : List Expr} {t : TA} (c : ∀ f sp, S f sp → C8.CalAt X.prog X.w X.K X.mg X.base k f sp) (hr : Room j X.A) (hk : k ≤ j) (hN : X.N[i]? = some x) (hv : Vis X.env.scope x) (ha : PA X (e :: es) t)
    (hd : (x == ("__debug__" : Str)) = false := by decide) (hcd : (x == ("__classdict__" : Str)) = false := by decide)
    (he : starEach (e :: es) X.env = (false, eval e X.env) :: starEach es X.env := by rfl) (hpl : (backTo pos (starEach es X.env)).any (·.1) = false := by rfl) :
    PE X (.Call (.Name x p) (e :: es) [] pos) (tCallX i S t) := by
  refine ⟨fun pins s σ H Q I h => ?_⟩
  obtain ⟨f, sp, hS, hs, ht⟩ := h
  obtain ⟨fd, ps, F, kp, b⟩ := (c f sp hS).ex
  refine wpAny_Call_Name_kw (thn ((pe_var (pos := p) hN hv hd hcd).run pins s σ H (fun v H1 => v = .ref f ∧ H1 = H) I ⟨.ref f, hs, rfl, rfl⟩) fun u s1 ⟨v, H1, I1, r1, q1⟩ => ?_)
  obtain ⟨rfl, rfl⟩ := q1
  cases r1
  refine PySem.W.callWith_K (h₀ := X.base) I.ok.mod.kin kp (thn (ha.run pos pins s1 σ _ _ I1 ht) fun us s2 ⟨vs, H2, I2, r, q⟩ => ⟨I2.kIn, ?_⟩) he hpl
  exact run_fn F (hr.mono hk) b .nil pass0 I2 r (by rw [List.append_nil]; exact q)
/-- a def that may be called by keywords -/
structure CalK (P : Program) (w : World) (K : PySem.W.Frag) (mg : Str → Option Value) (base : Heap) (k : Nat) (x : Str) (sp : Sp) (n : Nat) (ks : List Str) (gV : List V → List V → List V) : Prop where
  ex : ∃ (f : Addr) (fd : FuncData) (ps : List Str) (g : List Value → List Value → List Value), FnOk P w K mg base CX0 k f fd ps sp ∧ mg x = some (.ref f) ∧ PySem.W.keepIn K (.ref f) = true ∧ KBn K fd ps n ks g gV
theorem pe_callKX {k j n : Nat} {x : Str} {p pos : Pos} {e : Expr} {es : List Expr} {kws : List Keyword} {t tk : TA} {sp : Sp} {ks : List Str} {gV : List V → List V → List V} (c : CalK X.prog X.w X.K X.mg X.base k x sp n ks gV) (hr : Room j X.A) (hk : k ≤ j) (hg : Gl X x)
    (ha : PA X (e :: es) t) (hkw : PK X kws tk) (hall : (backToKw pos (keywordEach kws X.env)).all (·.1.isSome) = true := by rfl) (hks : (backToKw pos (keywordEach kws X.env)).filterMap (·.1) = ks := by rfl)
    (hdb : (x == ("__debug__" : Str)) = false := by decide) (he : starEach (e :: es) X.env = (false, eval e X.env) :: starEach es X.env := by rfl)
    (hpl : ((backTo pos (starEach (e :: es) X.env)).any (·.1) || (backToKw pos (keywordEach kws X.env)).any (·.1.isNone)) = false := by rfl) :
    PE X (.Call (.Name x p) (e :: es) kws pos) (tCallN n ks.length sp gV E0 t tk) := by
  obtain ⟨f, fd, ps, g, F, hm, kp, b⟩ := c.ex
  exact pe_callN F (hr.mono hk) hg hm kp b pass0 ha hkw hall hks hdb he hpl
theorem pe_callK0X {k j : Nat} {x : Str} {p pos : Pos} {kw : Keyword} {kws : List Keyword} {tk : TA} {sp : Sp} {ks : List Str} {gV : List V → List V → List V} (c : CalK X.prog X.w X.K X.mg X.base k x sp 0 ks gV) (hr : Room j X.A) (hk : k ≤ j) (hg : Gl X x)
    (hkw : PK X (kw :: kws) tk) (hall : (backToKw pos (keywordEach (kw :: kws) X.env)).all (·.1.isSome) = true := by rfl) (hks : (backToKw pos (keywordEach (kw :: kws) X.env)).filterMap (·.1) = ks := by rfl)
    (hdb : (x == ("__debug__" : Str)) = false := by decide)
    (hpl : ((backTo pos (starEach [] X.env)).any (·.1) || (backToKw pos (keywordEach (kw :: kws) X.env)).any (·.1.isNone)) = false := by rfl) :
    PE X (.Call (.Name x p) [] (kw :: kws) pos) (tCallN 0 ks.length sp gV E0 tNil tk) := by
  obtain ⟨f, fd, ps, g, F, hm, kp, b⟩ := c.ex
  refine ⟨fun pins s σ H Q I h => ?_⟩
  refine wpAny_Call_Name_kw (ld_glob I hg hm ?_ hdb)
  refine PySem.W.callWith_KW0 (h₀ := X.base) I.ok.mod.kin kp hall (thn (hkw.run pos pins s σ H _ I h) fun ws s2 ⟨zs, H2, I2, rz, l1, l2, q2⟩ => ⟨I2.kIn, ?_⟩) hpl
  rw [hks]
  exact run_fnN (us := []) (vs := []) F (hr.mono hk) b pass0 I2 .nil rz rfl l2 q2
end
/-! ### defs by their readings -/
section
variable {P : Program} {w : World} {K : PySem.W.Frag} {mg : Str → Option Value} {base : Heap}
theorem bindsX {x qual : Str} {params : Arguments} {body : List Stmt} {scope : Scope} {kws : List (Str × V)} {f : Addr} {ps : List Str}
    (F : ∃ fd, FunD K x qual params body scope [] kws f fd)
    (h : ∀ (kV doc pm : Value) (an : Option Addr) (cdv ct : Value) (us : List Value), us.length = ps.length → bindArgs (PySem.W.fnOf x qual params body scope .none kV doc pm an cdv ct) ⟨us, []⟩ = pure (ps.zip us)) :
    ∃ fd, FunD K x qual params body scope [] kws f fd ∧ Binds K fd ps [] := by
  obtain ⟨fd, F⟩ := F
  exact ⟨fd, F, F.bindsN h⟩
/-- a def of any defaults -/
theorem foX {x : Str} {params : Arguments} {body : List Stmt} {scope : Scope} {dvs : List V} {kws : List (Str × V)} {f : Addr} {fd : FuncData} {N ps : List Str} {k n : Nat} {t : TS}
    (F : FunD K x x params body scope dvs kws f fd) (S : FnScope N ps scope)
    (hbody : ∀ {cdv : Value} {A : Around} {outer : List Env} {s : Shared} {H : Hp} {E : XK}, Room k (A.deeper (envOfC x scope s.heap.objs.size f cdv)) → PSs (cxOf CX0 P w K mg base N x scope f cdv A outer s H E).nox body t) (hn : ps.length = n := by rfl) :
    FnOk P w K mg base CX0 (k + 1) f fd ps (fun vs H Q _ => vs.length = n ∧ t { nx := fun _ H' => Q .non H', rt := Q } (start N vs) H) :=
  F.ok S (fun vs H Q E h => h.1.trans hn.symm) (fun cdv A outer s H vs Q E hr h => ⟨t, (hbody hr).nox, h.2⟩)
/-- keywords alone fill the keyword-only parameters; no defaults -/
theorem kbinds0 {x qual : Str} {params : Arguments} {body : List Stmt} {scope : Scope} {kws : List (Str × V)} {f : Addr} {fd : FuncData} {ps : List Str} (F : FunD K x qual params body scope [] kws f fd) (n : Nat) (ks : List Str) (g : {α : Type} → List α → List α → List α)
    (hrel : ∀ {vs zs : List V} {us ws : List Value}, Vals vs us → Vals zs ws → Vals (g vs zs) (g us ws))
    (h : ∀ (kV doc pm : Value) (an : Option Addr) (cdv ct : Value) (us ws : List Value), us.length = n → ws.length = ks.length → bindArgs (PySem.W.fnOf x qual params body scope .none kV doc pm an cdv ct) ⟨us, ks.zip ws⟩ = pure (ps.zip (g us ws))) : KBn K fd ps n ks (fun us ws => g us ws) (fun vs zs => g vs zs) := by
  obtain ⟨oc, od, dV, kV, doc, pm, an, cdv, ct, osl, rfl, _, _, hD, _⟩ := F.ex
  rcases hD with ⟨_, rfl⟩ | ⟨z, _⟩
  · exact ⟨fun s us ws _ l1 l2 => .of_eq (h kV doc pm an cdv ct us ws l1 l2), fun r1 r2 => hrel r1 r2⟩
  · exact absurd rfl z
/-- a def: its reading is its promise -/
theorem calX {x : Str} {params : Arguments} {body : List Stmt} {scope : Scope} {kws : List (Str × V)} {f : Addr} {N ps : List Str} {k n : Nat} {t : TS}
    (g : mg x = some (.ref f)) (F : ∃ fd, FunD K x x params body scope [] kws f fd) (S : FnScope N ps scope) (B : ∃ fd, FunD K x x params body scope [] kws f fd ∧ Binds K fd ps [])
    (hbody : ∀ {cdv : Value} {A : Around} {outer : List Env} {s : Shared} {H : Hp} {E : XK}, Room k (A.deeper (envOfC x scope s.heap.objs.size f cdv)) → PSs (cxOf CX0 P w K mg base N x scope f cdv A outer s H E).nox body t) (hn : ps.length = n := by rfl) :
    C8.Cal P w K mg base (k + 1) x (fun vs H Q _ => vs.length = n ∧ t { nx := fun _ H' => Q .non H', rt := Q } (start N vs) H) [] := by
  obtain ⟨fd, F, b⟩ := B
  exact ⟨f, fd, ps, [], F.ok S (fun vs H Q E h => h.1.trans hn.symm) (fun cdv A outer s H vs Q E hr h => ⟨t, (hbody hr).nox, h.2⟩), g, F.kp, b, .nil⟩
theorem calAtX {x : Str} {params : Arguments} {body : List Stmt} {scope : Scope} {kws : List (Str × V)} {f : Addr} {N ps : List Str} {k n : Nat} {t : TS}
    (S : FnScope N ps scope) (B : ∃ fd, FunD K x x params body scope [] kws f fd ∧ Binds K fd ps [])
    (hbody : ∀ {cdv : Value} {A : Around} {outer : List Env} {s : Shared} {H : Hp} {E : XK}, Room k (A.deeper (envOfC x scope s.heap.objs.size f cdv)) → PSs (cxOf CX0 P w K mg base N x scope f cdv A outer s H E).nox body t) (hn : ps.length = n := by rfl) :
    C8.CalAt P w K mg base (k + 1) f (fun vs H Q _ => vs.length = n ∧ t { nx := fun _ H' => Q .non H', rt := Q } (start N vs) H) := by
  obtain ⟨fd, F, b⟩ := B
  exact ⟨fd, ps, F.ok S (fun vs H Q E h => h.1.trans hn.symm) (fun cdv A outer s H vs Q E hr h => ⟨t, (hbody hr).nox, h.2⟩), F.kp, b⟩
theorem metX {m qual : Str} {C : Addr} {params : Arguments} {body : List Stmt} {scope : Scope} {kws : List (Str × V)} {f : Addr} {N ps : List Str} {k n : Nat} {t : TS}
    (c : Cls K C) (me : Meth K C m f) (F : ∃ fd, FunD K m qual params body scope [] kws f fd) (S : FnScope N ps scope) (B : ∃ fd, FunD K m qual params body scope [] kws f fd ∧ Binds K fd ps [])
    (hbody : ∀ {cdv : Value} {A : Around} {outer : List Env} {s : Shared} {H : Hp} {E : XK}, Room k (A.deeper (envOfC qual scope s.heap.objs.size f cdv)) → PSs (cxOf CX0 P w K mg base N qual scope f cdv A outer s H E).nox body t) (hn : ps.length = n := by rfl) :
    C8.Met P w K mg base (k + 1) C m (fun vs H Q _ => vs.length = n ∧ t { nx := fun _ H' => Q .non H', rt := Q } (start N vs) H) [] := by
  obtain ⟨fd, F, b⟩ := B
  exact ⟨f, fd, ps, [], c, me, F.ok S (fun vs H Q E h => h.1.trans hn.symm) (fun cdv A outer s H vs Q E hr h => ⟨t, (hbody hr).nox, h.2⟩), b, .nil⟩
theorem makX {x qual : Str} {C : Addr} {params : Arguments} {body : List Stmt} {scope : Scope} {kws : List (Str × V)} {f : Addr} {N ps : List Str} {k n : Nat} {t : TS}
    (M : Mk K C f) (hm : mg x = some (.ref C)) (F : ∃ fd, FunD K "__init__" qual params body scope [] kws f fd) (S : FnScope N ps scope) (B : ∃ fd, FunD K "__init__" qual params body scope [] kws f fd ∧ Binds K fd ps [])
    (hbody : ∀ {cdv : Value} {A : Around} {outer : List Env} {s : Shared} {H : Hp} {E : XK}, Room k (A.deeper (envOfC qual scope s.heap.objs.size f cdv)) → PSs (cxOf CX0 P w K mg base N qual scope f cdv A outer s H E).nox body t) (hn : ps.length = n := by rfl) :
    C8.Mak P w K mg base (k + 1) x C (fun vs H Q _ => vs.length = n ∧ t { nx := fun _ H' => Q .non H', rt := Q } (start N vs) H) [] := by
  obtain ⟨fd, F, b⟩ := B
  exact ⟨f, fd, ps, [], M, F.ok S (fun vs H Q E h => h.1.trans hn.symm) (fun cdv A outer s H vs Q E hr h => ⟨t, (hbody hr).nox, h.2⟩), hm, b, .nil⟩
theorem calAt_of {x : Str} {k j : Nat} {f : Addr} {sp : Sp} (c : C8.Cal P w K mg base k x sp []) (g : mg x = some (.ref f)) (hk : k ≤ j := by decide) : C8.CalAt P w K mg base j f sp := by
  obtain ⟨f', fd, ps, ds, F, hm, kp, b, d⟩ := c.ex
  cases d
  rw [g] at hm
  cases hm
  exact ⟨fd, ps, F.mono hk, kp, b⟩
end
end L2


set_option Elab.async false
set_option linter.all false
set_option maxRecDepth 100000
set_option maxHeartbeats 4000000
/-! the readings of the row's defs, printed from the row -/
namespace R72
open PySem L2
abbrev N_act_names : List Str := ["act", "found", "kind", "part"]
def t_act_names (K : PySem.W.Frag) (w : World) : TS :=
  (tSeq (tAsg (tLst tNil) (gName 1)) (tSeq (tFor (iZipX K (tCons (tOp (rIxD K w) (tC (.ref (He.ga K "PARTS"))) (tOp (rIx K) (tVar 0) (tC (.int (0))))) (tCons (tSl (rSlX K) (tVar 0) (tPart (tC (.int (1)))) tNoPart) tNil))) (gTup K 2 (gCons (gName 2) (gCons (gName 3) gNil))) (tIfS (tTest (tOp (rEqX K) (tVar 2) (tC (.str "g")))) (tDrop (tBM K "list" (rExtendX K) (tVar 1) (tCons (tVar 3) tNil))) (tIfS (tAnd (tTest (tOp (rInX K false) (tVar 2) (tTup (tCons (tC (.str "n")) (tCons (tC (.str "p")) (tCons (tC (.str "a")) (tCons (tC (.str "s")) tNil))))))) (tB (tCB (rIsiX K) (tCons (tVar 3) (tCons (tC (.ty "str")) tNil))))) (tDrop (tBM K "list" rAppend (tVar 1) (tCons (tVar 3) tNil))) tNext))) (tRet (tVar 1))))
def sp_act_names (K : PySem.W.Frag) (w : World) : Sp := fun vs H Q _ => vs.length = 1 ∧ t_act_names K w { nx := fun _ H' => Q .non H', rt := Q } (start N_act_names vs) H
abbrev N_names_of : List Str := ["definition", "found", "label", "act", "name"]
def t_names_of (K : PySem.W.Frag) (w : World) : TS :=
  (tSeq (tAsg (tDc (iSeqX K (tOp (rAddX K) (tOp (rAddX K) (tOp (rIx K) (tVar 0) (tC (.int (1)))) (tOp (rIx K) (tVar 0) (tC (.int (2))))) (tOp (rIx K) (tVar 0) (tC (.int (3)))))) (gName 4) tYes (tVar 4) (tC (.bl true)) [4]) (gName 1)) (tSeq (tFor (iSeqX K (tOp (rIx K) (tVar 0) (tC (.int (4))))) (gTup K 2 (gCons (gName 2) (gCons (gName 3) gNil))) (tDrop (tBM K "dict" (rUpdateX w) (tVar 1) (tCons (tDc (iSeqX K (tCall (sp_act_names K w) [] E0 (tCons (tVar 3) tNil))) (gName 4) tYes (tVar 4) (tC (.bl true)) [4]) tNil)))) (tRet (tCB (rSortX K) (tCons (tVar 1) tNil)))))
def sp_names_of (K : PySem.W.Frag) (w : World) : Sp := fun vs H Q _ => vs.length = 1 ∧ t_names_of K w { nx := fun _ H' => Q .non H', rt := Q } (start N_names_of vs) H
abbrev N_numbers_of : List Str := ["definition", "name"]
def t_numbers_of (K : PySem.W.Frag) (w : World) : TS :=
  (tRet (tLc (iSeqX K (tCall (sp_names_of K w) [] E0 (tCons (tVar 0) tNil))) (gName 1) (tTest (tOp (rInX K true) (tVar 1) (tOp (rIx K) (tVar 0) (tC (.int (3)))))) (tVar 1) [1]))
def sp_numbers_of (K : PySem.W.Frag) (w : World) : Sp := fun vs H Q _ => vs.length = 1 ∧ t_numbers_of K w { nx := fun _ H' => Q .non H', rt := Q } (start N_numbers_of vs) H
abbrev N_def_at : List Str := ["program", "name", "one"]
def t_def_at (K : PySem.W.Frag) (w : World) : TS :=
  (tRet (tOp (rIx K) (tLc (iSeqX K (tOp (rIx K) (tVar 0) (tC (.int (1))))) (gName 2) (tTest (tOp (rEqX K) (tOp (rIx K) (tVar 2) (tC (.int (0)))) (tVar 1))) (tVar 2) [2]) (tC (.int (0)))))
def sp_def_at (K : PySem.W.Frag) (w : World) : Sp := fun vs H Q _ => vs.length = 2 ∧ t_def_at K w { nx := fun _ H' => Q .non H', rt := Q } (start N_def_at vs) H
abbrev N_places_of : List Str := ["program", "one", "label", "act"]
def t_places_of (K : PySem.W.Frag) (w : World) : TS :=
  (tRet (tCB (rSortX K) (tCons (tLc2 (iSeqX K (tOp (rIx K) (tVar 0) (tC (.int (1))))) (gName 1) tYes (iSeqX K (tOp (rIx K) (tVar 1) (tC (.int (4))))) (gTup K 2 (gCons (gName 2) (gCons (gName 3) gNil))) tYes (tTup (tCons (tOp (rIx K) (tVar 1) (tC (.int (0)))) (tCons (tVar 2) tNil))) [1, 2, 3] [2, 3]) tNil)))
def sp_places_of (K : PySem.W.Frag) (w : World) : Sp := fun vs H Q _ => vs.length = 1 ∧ t_places_of K w { nx := fun _ H' => Q .non H', rt := Q } (start N_places_of vs) H
abbrev N_act_at : List Str := ["program", "place"]
def t_act_at (K : PySem.W.Frag) (w : World) : TS :=
  (tRet (tDGet (tCB (rDicX K) (tCons (tOp (rIx K) (tCall (sp_def_at K w) [] E0 (tCons (tVar 0) (tCons (tOp (rIx K) (tVar 1) (tC (.int (0)))) tNil))) (tC (.int (4)))) tNil)) (tOp (rIx K) (tVar 1) (tC (.int (1))))))
def sp_act_at (K : PySem.W.Frag) (w : World) : Sp := fun vs H Q _ => vs.length = 2 ∧ t_act_at K w { nx := fun _ H' => Q .non H', rt := Q } (start N_act_at vs) H
abbrev N_side_of : List Str := ["side", "state"]
def t_side_of (K : PySem.W.Frag) (w : World) : TS :=
  (tRet (tIf (tB (tCB (rIsiX K) (tCons (tVar 0) (tCons (tC (.ty "str")) tNil)))) (tDGet (tVar 1) (tVar 0)) (tVar 0)))
def sp_side_of (K : PySem.W.Frag) (w : World) : Sp := fun vs H Q _ => vs.length = 2 ∧ t_side_of K w { nx := fun _ H' => Q .non H', rt := Q } (start N_side_of vs) H
abbrev N_is_so : List Str := ["first", "sign", "second", "state", "one", "other"]
def t_is_so (K : PySem.W.Frag) (w : World) : TS :=
  (tSeq (tPar 4 5 (tCons (tCall (sp_side_of K w) [] E0 (tCons (tVar 0) (tCons (tVar 3) tNil))) (tCons (tCall (sp_side_of K w) [] E0 (tCons (tVar 2) (tCons (tVar 3) tNil))) tNil))) (tRet (tIf (tTest (tOp (rEqX K) (tVar 1) (tC (.str "<")))) (tOp rLtX (tVar 4) (tVar 5)) (tOp rLeX (tVar 4) (tVar 5)))))
def sp_is_so (K : PySem.W.Frag) (w : World) : Sp := fun vs H Q _ => vs.length = 4 ∧ t_is_so K w { nx := fun _ H' => Q .non H', rt := Q } (start N_is_so vs) H
abbrev N_looks : List Str := ["program", "found", "place", "kind"]
def t_looks (K : PySem.W.Frag) (w : World) : TS :=
  (tSeq (tAsg (tLc (iSeqX K (tCall (sp_places_of K w) [] E0 (tCons (tVar 0) tNil))) (gName 2) tYes (tTup (tCons (tVar 2) (tCons (tOp (rIx K) (tCall (sp_act_at K w) [] E0 (tCons (tVar 0) (tCons (tVar 2) tNil))) (tC (.int (0)))) tNil))) [2]) (gName 1)) (tRet (tLc (iSeqX K (tVar 1)) (gTup K 2 (gCons (gName 2) (gCons (gName 3) gNil))) (tTest (tOp (rInKX K false "WHYS") (tVar 3) (tC (.ref (He.ga K "WHYS"))))) (tTup (tCons (tVar 2) (tCons (tOp (rIxD K w) (tC (.ref (He.ga K "WHYS"))) (tVar 3)) tNil))) [2, 3])))
def sp_looks (K : PySem.W.Frag) (w : World) : Sp := fun vs H Q _ => vs.length = 1 ∧ t_looks K w { nx := fun _ H' => Q .non H', rt := Q } (start N_looks vs) H
abbrev N_head_row : List Str := ["definition", "first", "name", "params", "fingers", "rows", "steps"]
def t_head_row (K : PySem.W.Frag) (w : World) : TS :=
  (tSeq (tAsg (tVar 0) (gTup K 5 (gCons (gName 2) (gCons (gName 3) (gCons (gName 4) (gCons (gName 5) (gCons (gName 6) gNil))))))) (tRet (tTup (tCons (tC (.str "def")) (tCons (tVar 3) (tCons (tCB (rTupX K) (tCons (tCall (sp_numbers_of K w) [] E0 (tCons (tVar 0) tNil)) tNil)) (tCons (tVar 5) (tCons (tVar 1) tNil))))))))
def sp_head_row (K : PySem.W.Frag) (w : World) : Sp := fun vs H Q _ => vs.length = 2 ∧ t_head_row K w { nx := fun _ H' => Q .non H', rt := Q } (start N_head_row vs) H
abbrev N_step_row : List Str := ["place", "act", "numbers", "heads", "looked", "parts", "on"]
def t_step_row (K : PySem.W.Frag) (w : World) : TS :=
  (tSeq (tAsg (tSl (rSlX K) (tVar 1) (tPart (tC (.int (1)))) tNoPart) (gName 5)) (tSeq (tAsg (tOp (rAddX K) (tDGet (tVar 2) (tVar 0)) (tC (.int (1)))) (gName 6)) (C8.tCut (tIfS (tTest (tOp (rInX K false) (tOp (rIx K) (tVar 1) (tC (.int (0)))) (tTup (tCons (tC (.str "if")) (tCons (tC (.str "go")) tNil))))) (tAsg (tOp (rAddX K) (tSl (rSlX K) (tVar 1) (tPart (tC (.int (1)))) (tPart (tUn rNegX (tC (.int (1)))))) (tTup (tCons (tDGet (tVar 2) (tTup (tCons (tOp (rIx K) (tVar 0) (tC (.int (0)))) (tCons (tOp (rIx K) (tVar 1) (tUn rNegX (tC (.int (1))))) tNil)))) tNil))) (gName 5)) tNext) (C8.tCut (tIfS (tTest (tOp (rEqX K) (tOp (rIx K) (tVar 1) (tC (.int (0)))) (tC (.str "call")))) (tAsg (tTup (tCons (tOp (rIx K) (tVar 1) (tC (.int (1)))) (tCons (tDGet (tVar 3) (tOp (rIx K) (tVar 1) (tC (.int (2))))) (tCons (tOp (rIx K) (tVar 1) (tC (.int (3)))) tNil)))) (gName 5)) tNext) (tRet (tTup (tCons (tOp (rIx K) (tVar 1) (tC (.int (0)))) (tCons (tVar 0) (tCons (tVar 4) (tCons (tVar 5) (tCons (tVar 6) tNil)))))))))))
def sp_step_row (K : PySem.W.Frag) (w : World) : Sp := fun vs H Q _ => vs.length = 5 ∧ t_step_row K w { nx := fun _ H' => Q .non H', rt := Q } (start N_step_row vs) H
abbrev N_compiled : List Str := ["program", "left_out", "width", "defs", "one", "heads", "numbers", "label", "act", "found", "place", "looked", "k"]
def t_compiled (K : PySem.W.Frag) (w : World) : TS :=
  (tSeq (tAsg (tVar 0) (gTup K 2 (gCons (gName 2) (gCons (gName 3) gNil)))) (tSeq (tAsg (tDc (iEnumX K (tCons (tVar 3) tNil)) (gTup K 2 (gCons (gName 12) (gCons (gName 4) gNil))) tYes (tOp (rIx K) (tVar 4) (tC (.int (0)))) (tOp (rAddX K) (tC (.int (1))) (tVar 12)) [12, 4]) (gName 5)) (tSeq (tAsg tDNewT (gName 6)) (tSeq (tFor (iSeqX K (tVar 3)) (gName 4) (tDrop (tBM K "dict" (rUpdateX w) (tVar 6) (tCons (tDcT (iEnumX K (tCons (tOp (rIx K) (tVar 4) (tC (.int (4)))) tNil)) (gTup K 2 (gCons (gName 12) (gCons (gTup K 2 (gCons (gName 7) (gCons (gName 8) gNil))) gNil))) tYes (tTup (tCons (tOp (rIx K) (tVar 4) (tC (.int (0)))) (tCons (tVar 7) tNil))) (tOp (rAddX K) (tOp (rAddX K) (tOp (rAddX K) (tC (.int (1))) (tCB (rLenX K) (tCons (tVar 3) tNil))) (tCB (rLenX K) (tCons (tVar 6) tNil))) (tVar 12)) [12, 7, 8]) tNil)))) (tSeq (tAsg (tLst (tCons (tTup (tCons (tC (.str "start")) (tCons (tVar 2) (tCons (tDGet (tVar 5) (tC (.str "main"))) tNil)))) tNil)) (gName 9)) (tSeq (tDrop (tBM K "list" (rExtendX K) (tVar 9) (tCons (tLc (iSeqX K (tVar 3)) (gName 4) tYes (tCall (sp_head_row K w) [] E0 (tCons (tVar 4) (tCons (tDGet (tVar 6) (tTup (tCons (tOp (rIx K) (tVar 4) (tC (.int (0)))) (tCons (tOp (rIx K) (tOp (rIx K) (tOp (rIx K) (tVar 4) (tC (.int (4)))) (tC (.int (0)))) (tC (.int (0)))) tNil)))) tNil))) [4]) tNil))) (tSeq (tFor (iSeqX K (tVar 3)) (gName 4) (tFor (iSeqX K (tOp (rIx K) (tVar 4) (tC (.int (4))))) (gTup K 2 (gCons (gName 7) (gCons (gName 8) gNil))) (tSeq (tAsg (tTup (tCons (tOp (rIx K) (tVar 4) (tC (.int (0)))) (tCons (tVar 7) tNil))) (gName 10)) (tSeq (tAsg (tAndV (tOp (rInKX K false "WHYS") (tOp (rIx K) (tVar 8) (tC (.int (0)))) (tC (.ref (He.ga K "WHYS")))) (tOp (rInX K true) (tVar 10) (tVar 1))) (gName 11)) (tDrop (tBM K "list" rAppend (tVar 9) (tCons (tCall (sp_step_row K w) [] E0 (tCons (tVar 10) (tCons (tVar 8) (tCons (tVar 6) (tCons (tVar 5) (tCons (tVar 11) tNil)))))) tNil))))))) (tRet (tVar 9)))))))))
def sp_compiled (K : PySem.W.Frag) (w : World) : Sp := fun vs H Q _ => vs.length = 2 ∧ t_compiled K w { nx := fun _ H' => Q .non H', rt := Q } (start N_compiled vs) H
abbrev N_Frame_init : List Str := ["self", "head", "top", "name"]
def t_Frame_init (K : PySem.W.Frag) (w : World) : TS :=
  (tSeq (sFld K (tVar 0) (tDc (iSeqX K (tOp (rIx K) (tVar 1) (tC (.int (2))))) (gName 3) tYes (tVar 3) (tC (.int (0))) [3]) "numbers") (tSeq (sFld K (tVar 0) (tDc (iSeqX K (tOp (rIx K) (tVar 1) (tC (.int (3))))) (gName 3) tYes (tVar 3) (tTup (tCons (tC (.int (0))) (tCons (tC (.int (0))) tNil))) [3]) "lain") (tSeq (sFld K (tVar 0) (tVar 2) "ahead") (sFld K (tVar 0) (tOp (rIx K) (tVar 1) (tC (.int (4)))) "at"))))
def sp_Frame_init (K : PySem.W.Frag) (w : World) : Sp := fun vs H Q _ => vs.length = 3 ∧ t_Frame_init K w { nx := fun _ H' => Q .non H', rt := Q } (start N_Frame_init vs) H
abbrev N_Machine_init : List Str := ["self", "rows", "words", "steps"]
def t_Machine_init (K : PySem.W.Frag) (w : World) : TS :=
  (tSeq (sFld K (tVar 0) (tVar 1) "code") (tSeq (sFld K (tVar 0) (tOp (rIx K) (tOp (rIx K) (tVar 1) (tC (.int (0)))) (tC (.int (1)))) "wide") (tSeq (sFld K (tVar 0) (tCB (rLisX K) (tCons (tVar 2) tNil)) "left") (tSeq (sFld K (tVar 0) (tVar 3) "most") (tSeq (sFld K (tVar 0) tDNewK "memory") (tSeq (sFld K (tVar 0) (tC (.int (0))) "top") (tSeq (sFld K (tVar 0) (tLst (tCons (tMake (He.ga K "Frame") (sp_Frame_init K w) [] E0 (tCons (tOp (rIx K) (tVar 1) (tOp (rIx K) (tOp (rIx K) (tVar 1) (tC (.int (0)))) (tC (.int (2))))) (tCons (tC (.int (0))) tNil))) tNil)) "frames") (tSeq (sFld K (tVar 0) (tLst tNil) "told") (tSeq (sFld K (tVar 0) (tC (.int (0))) "many") (tSeq (sFld K (tVar 0) (tC (.int (0))) "looks") (sFld K (tVar 0) (tC .non) "end")))))))))))
def sp_Machine_init (K : PySem.W.Frag) (w : World) : Sp := fun vs H Q _ => vs.length = 4 ∧ t_Machine_init K w { nx := fun _ H' => Q .non H', rt := Q } (start N_Machine_init vs) H
abbrev N_Machine_laid : List Str := ["self", "words", "found", "word"]
def t_Machine_laid (K : PySem.W.Frag) (w : World) : TS :=
  (tSeq (tAsg (tTup (tCons (tFld K (tVar 0) "top") (tCons (tCB (rLenX K) (tCons (tVar 1) tNil)) tNil))) (gName 2)) (tSeq (tFor (iSeqX K (tVar 1)) (gName 3) (tSeq (sDPut (tFld K (tVar 0) "memory") (tFld K (tVar 0) "top") (tVar 3)) (sFldAug K (tVar 0) (tC (.int (1))) rAdd "top"))) (tRet (tVar 2))))
def sp_Machine_laid (K : PySem.W.Frag) (w : World) : Sp := fun vs H Q _ => vs.length = 2 ∧ t_Machine_laid K w { nx := fun _ H' => Q .non H', rt := Q } (start N_Machine_laid vs) H
abbrev N_Machine_cells : List Str := ["self", "lying", "where", "size", "k"]
def t_Machine_cells (K : PySem.W.Frag) (w : World) : TS :=
  (tSeq (tAsg (tVar 1) (gTup K 2 (gCons (gName 2) (gCons (gName 3) gNil)))) (tRet (tLc (iRng1 (tCons (tVar 3) tNil)) (gName 4) tYes (tDGet2 (tFld K (tVar 0) "memory") (tOp (rAddX K) (tVar 2) (tVar 4)) (tC (.int (0)))) [4])))
def sp_Machine_cells (K : PySem.W.Frag) (w : World) : Sp := fun vs H Q _ => vs.length = 2 ∧ t_Machine_cells K w { nx := fun _ H' => Q .non H', rt := Q } (start N_Machine_cells vs) H
abbrev N_Machine_fails : List Str := ["self", "row", "wrong"]
def t_Machine_fails (K : PySem.W.Frag) (w : World) : TS :=
  (tSeq (tIfS (tNot (tB (tOp (rIx K) (tVar 1) (tC (.int (2)))))) (tRet (tC (.bl false))) tNext) (tSeq (sFldAug K (tVar 0) (tC (.int (1))) rAdd "looks") (C8.tCut (tIfS (tB (tVar 2)) (sFld K (tVar 0) (tTup (tCons (tC (.str "fault")) (tCons (tOp (rIxD K w) (tC (.ref (He.ga K "WHYS"))) (tOp (rIx K) (tVar 1) (tC (.int (0))))) (tCons (tOp (rIx K) (tVar 1) (tC (.int (1)))) tNil)))) "end") tNext) (tRet (tVar 2)))))
def sp_Machine_fails (K : PySem.W.Frag) (w : World) : Sp := fun vs H Q _ => vs.length = 3 ∧ t_Machine_fails K w { nx := fun _ H' => Q .non H', rt := Q } (start N_Machine_fails vs) H
abbrev N_on_set : List Str := ["machine", "frame", "row", "name", "word"]
def t_on_set (K : PySem.W.Frag) (w : World) : TS :=
  (tSeq (tAsg (tOp (rIx K) (tVar 2) (tC (.int (3)))) (gTup K 2 (gCons (gName 3) (gCons (gName 4) gNil)))) (sDPut (tFld K (tVar 1) "numbers") (tVar 3) (tVar 4)))
def sp_on_set (K : PySem.W.Frag) (w : World) : Sp := fun vs H Q _ => vs.length = 3 ∧ t_on_set K w { nx := fun _ H' => Q .non H', rt := Q } (start N_on_set vs) H
abbrev N_on_sum : List Str := ["machine", "frame", "row", "name", "one", "other", "first", "second", "found", "width"]
def t_on_sum (K : PySem.W.Frag) (w : World) : TS :=
  (tSeq (tAsg (tOp (rIx K) (tVar 2) (tC (.int (3)))) (gTup K 3 (gCons (gName 3) (gCons (gName 4) (gCons (gName 5) gNil))))) (tSeq (tAsg (tDGet (tFld K (tVar 1) "numbers") (tVar 4)) (gName 6)) (tSeq (tAsg (tIf (tB (tCB (rIsiX K) (tCons (tVar 5) (tCons (tC (.ty "str")) tNil)))) (tDGet (tFld K (tVar 1) "numbers") (tVar 5)) (tVar 5)) (gName 7)) (tSeq (tAsg (tOp (rAddX K) (tVar 6) (tVar 7)) (gName 8)) (C8.tCut (tIfS (tTest (tOp (rEqX K) (tOp (rIx K) (tVar 2) (tC (.int (0)))) (tC (.str "minus")))) (tAsg (tOp rSubX (tVar 6) (tVar 7)) (gName 8)) tNext) (C8.tCut (tIfS (tTest (tOp (rEqX K) (tOp (rIx K) (tVar 2) (tC (.int (0)))) (tC (.str "times")))) (tAsg (tOp rMulX (tVar 6) (tVar 7)) (gName 8)) tNext) (tSeq (tAsg (tFld K (tVar 0) "wide") (gName 9)) (tIfS (tNot (tB (tMeth (He.ga K "Machine") "fails" (sp_Machine_fails K w) [] E0 (tVar 0) (tCons (tVar 2) (tCons (tNotV (tChain rLeX rLeX (tUn rNegX (tVar 9)) (tVar 8) (tVar 9))) tNil))))) (sDPut (tFld K (tVar 1) "numbers") (tVar 3) (tOp rSubX (tOp rModX (tOp (rAddX K) (tVar 8) (tVar 9)) (tOp (rAddX K) (tOp rMulX (tC (.int (2))) (tVar 9)) (tC (.int (1))))) (tVar 9))) tNext))))))))
def sp_on_sum (K : PySem.W.Frag) (w : World) : Sp := fun vs H Q _ => vs.length = 3 ∧ t_on_sum K w { nx := fun _ H' => Q .non H', rt := Q } (start N_on_sum vs) H
abbrev N_on_over : List Str := ["machine", "frame", "row", "name", "one", "other", "first", "second", "found"]
def t_on_over (K : PySem.W.Frag) (w : World) : TS :=
  (tSeq (tAsg (tOp (rIx K) (tVar 2) (tC (.int (3)))) (gTup K 3 (gCons (gName 3) (gCons (gName 4) (gCons (gName 5) gNil))))) (tSeq (tPar 6 7 (tCons (tDGet (tFld K (tVar 1) "numbers") (tVar 4)) (tCons (tDGet (tFld K (tVar 1) "numbers") (tVar 5)) tNil))) (tSeq (tIfS (tB (tMeth (He.ga K "Machine") "fails" (sp_Machine_fails K w) [] E0 (tVar 0) (tCons (tVar 2) (tCons (tOp (rEqX K) (tVar 7) (tC (.int (0)))) tNil)))) tRetN tNext) (tSeq (tAsg (tC (.int (0))) (gName 8)) (C8.tCut (tIfS (tTest (tOp (rNeX K) (tVar 7) (tC (.int (0))))) (tAsg (tIf (tTest (tOp (rEqX K) (tOp (rIx K) (tVar 2) (tC (.int (0)))) (tC (.str "over")))) (tOp rFdvX (tVar 6) (tVar 7)) (tOp rModX (tVar 6) (tVar 7))) (gName 8)) tNext) (sDPut (tFld K (tVar 1) "numbers") (tVar 3) (tVar 8)))))))
def sp_on_over (K : PySem.W.Frag) (w : World) : Sp := fun vs H Q _ => vs.length = 3 ∧ t_on_over K w { nx := fun _ H' => Q .non H', rt := Q } (start N_on_over vs) H
abbrev N_on_mid : List Str := ["machine", "frame", "row", "name", "one", "other"]
def t_on_mid (K : PySem.W.Frag) (w : World) : TS :=
  (tSeq (tAsg (tOp (rIx K) (tVar 2) (tC (.int (3)))) (gTup K 3 (gCons (gName 3) (gCons (gName 4) (gCons (gName 5) gNil))))) (sDPut (tFld K (tVar 1) "numbers") (tVar 3) (tOp rFdvX (tOp (rAddX K) (tDGet (tFld K (tVar 1) "numbers") (tVar 4)) (tDGet (tFld K (tVar 1) "numbers") (tVar 5))) (tC (.int (2))))))
def sp_on_mid (K : PySem.W.Frag) (w : World) : Sp := fun vs H Q _ => vs.length = 3 ∧ t_on_mid K w { nx := fun _ H' => Q .non H', rt := Q } (start N_on_mid vs) H
abbrev N_on_row : List Str := ["machine", "frame", "row", "name", "one", "size"]
def t_on_row (K : PySem.W.Frag) (w : World) : TS :=
  (tSeq (tAsg (tOp (rIx K) (tVar 2) (tC (.int (3)))) (gTup K 2 (gCons (gName 3) (gCons (gName 4) gNil)))) (tSeq (tAsg (tDGet (tFld K (tVar 1) "numbers") (tVar 4)) (gName 5)) (tIfS (tNot (tB (tMeth (He.ga K "Machine") "fails" (sp_Machine_fails K w) [] E0 (tVar 0) (tCons (tVar 2) (tCons (tOp rLtX (tVar 5) (tC (.int (0)))) tNil))))) (sDPut (tFld K (tVar 1) "lain") (tVar 3) (tMeth (He.ga K "Machine") "laid" (sp_Machine_laid K w) [] E0 (tVar 0) (tCons (tOp rMulX (tLst (tCons (tC (.int (0))) tNil)) (tCB rMax2X (tCons (tC (.int (0))) (tCons (tVar 5) tNil)))) tNil))) tNext)))
def sp_on_row (K : PySem.W.Frag) (w : World) : Sp := fun vs H Q _ => vs.length = 3 ∧ t_on_row K w { nx := fun _ H' => Q .non H', rt := Q } (start N_on_row vs) H
abbrev N_cell_of : List Str := ["machine", "frame", "row", "name", "one", "where", "size", "place"]
def t_cell_of (K : PySem.W.Frag) (w : World) : TS :=
  (tSeq (tAsg (tDGet (tFld K (tVar 1) "lain") (tVar 3)) (gTup K 2 (gCons (gName 5) (gCons (gName 6) gNil)))) (tSeq (tAsg (tDGet (tFld K (tVar 1) "numbers") (tVar 4)) (gName 7)) (tRet (tIf (tB (tMeth (He.ga K "Machine") "fails" (sp_Machine_fails K w) [] E0 (tVar 0) (tCons (tVar 2) (tCons (tNotV (tChain rLeX rLtX (tC (.int (0))) (tVar 7) (tVar 6))) tNil)))) (tC .non) (tOp (rAddX K) (tVar 5) (tVar 7))))))
def sp_cell_of (K : PySem.W.Frag) (w : World) : Sp := fun vs H Q _ => vs.length = 5 ∧ t_cell_of K w { nx := fun _ H' => Q .non H', rt := Q } (start N_cell_of vs) H
abbrev N_on_get : List Str := ["machine", "frame", "row", "name", "one", "place", "found"]
def t_on_get (K : PySem.W.Frag) (w : World) : TS :=
  (tSeq (tAsg (tOp (rIx K) (tVar 2) (tC (.int (3)))) (gTup K 3 (gCons (gName 3) (gCons (gName 4) (gCons (gName 5) gNil))))) (tSeq (tAsg (tCall (sp_cell_of K w) [] E0 (tCons (tVar 0) (tCons (tVar 1) (tCons (tVar 2) (tCons (tVar 4) (tCons (tVar 5) tNil)))))) (gName 6)) (tIfS (tTest (tOp rNotNX (tVar 6) (tC .non))) (sDPut (tFld K (tVar 1) "numbers") (tVar 3) (tDGet2 (tFld K (tVar 0) "memory") (tVar 6) (tC (.int (0))))) tNext)))
def sp_on_get (K : PySem.W.Frag) (w : World) : Sp := fun vs H Q _ => vs.length = 3 ∧ t_on_get K w { nx := fun _ H' => Q .non H', rt := Q } (start N_on_get vs) H
abbrev N_on_put : List Str := ["machine", "frame", "row", "name", "place", "other", "found"]
def t_on_put (K : PySem.W.Frag) (w : World) : TS :=
  (tSeq (tAsg (tOp (rIx K) (tVar 2) (tC (.int (3)))) (gTup K 3 (gCons (gName 3) (gCons (gName 4) (gCons (gName 5) gNil))))) (tSeq (tAsg (tCall (sp_cell_of K w) [] E0 (tCons (tVar 0) (tCons (tVar 1) (tCons (tVar 2) (tCons (tVar 3) (tCons (tVar 4) tNil)))))) (gName 6)) (tIfS (tTest (tOp rNotNX (tVar 6) (tC .non))) (sDPut (tFld K (tVar 0) "memory") (tVar 6) (tDGet (tFld K (tVar 1) "numbers") (tVar 5))) tNext)))
def sp_on_put (K : PySem.W.Frag) (w : World) : Sp := fun vs H Q _ => vs.length = 3 ∧ t_on_put K w { nx := fun _ H' => Q .non H', rt := Q } (start N_on_put vs) H
abbrev N_on_length : List Str := ["machine", "frame", "row", "name", "one"]
def t_on_length (K : PySem.W.Frag) (w : World) : TS :=
  (tSeq (tAsg (tOp (rIx K) (tVar 2) (tC (.int (3)))) (gTup K 2 (gCons (gName 3) (gCons (gName 4) gNil)))) (sDPut (tFld K (tVar 1) "numbers") (tVar 3) (tOp (rIx K) (tDGet (tFld K (tVar 1) "lain") (tVar 4)) (tC (.int (1))))))
def sp_on_length (K : PySem.W.Frag) (w : World) : Sp := fun vs H Q _ => vs.length = 3 ∧ t_on_length K w { nx := fun _ H' => Q .non H', rt := Q } (start N_on_length vs) H
abbrev N_on_ask : List Str := ["machine", "frame", "row", "name", "least", "greatest", "word"]
def t_on_ask (K : PySem.W.Frag) (w : World) : TS :=
  (tSeq (tAsg (tOp (rIx K) (tVar 2) (tC (.int (3)))) (gTup K 3 (gCons (gName 3) (gCons (gName 4) (gCons (gName 5) gNil))))) (tSeq (tAsg (tIf (tTest (tOp (rNeX K) (tFld K (tVar 0) "left") (tLst tNil))) (tBM K "list" rPopX (tFld K (tVar 0) "left") (tCons (tC (.int (0))) tNil)) (tC (.int (0)))) (gName 6)) (sDPut (tFld K (tVar 1) "numbers") (tVar 3) (tOp (rAddX K) (tVar 4) (tOp rModX (tOp rSubX (tVar 6) (tVar 4)) (tOp (rAddX K) (tOp rSubX (tVar 5) (tVar 4)) (tC (.int (1)))))))))
def sp_on_ask (K : PySem.W.Frag) (w : World) : Sp := fun vs H Q _ => vs.length = 3 ∧ t_on_ask K w { nx := fun _ H' => Q .non H', rt := Q } (start N_on_ask vs) H
abbrev N_on_tell : List Str := ["machine", "frame", "row"]
def t_on_tell (K : PySem.W.Frag) (w : World) : TS :=
  (tDrop (tBM K "list" rAppend (tFld K (tVar 0) "told") (tCons (tDGet (tFld K (tVar 1) "numbers") (tOp (rIx K) (tOp (rIx K) (tVar 2) (tC (.int (3)))) (tC (.int (0))))) tNil)))
def sp_on_tell (K : PySem.W.Frag) (w : World) : Sp := fun vs H Q _ => vs.length = 3 ∧ t_on_tell K w { nx := fun _ H' => Q .non H', rt := Q } (start N_on_tell vs) H
abbrev N_on_check : List Str := ["machine", "frame", "row", "first", "sign", "second"]
def t_on_check (K : PySem.W.Frag) (w : World) : TS :=
  (tSeq (tAsg (tOp (rIx K) (tVar 2) (tC (.int (3)))) (gTup K 3 (gCons (gName 3) (gCons (gName 4) (gCons (gName 5) gNil))))) (tDrop (tMeth (He.ga K "Machine") "fails" (sp_Machine_fails K w) [] E0 (tVar 0) (tCons (tVar 2) (tCons (tNotV (tCall (sp_is_so K w) [] E0 (tCons (tVar 3) (tCons (tVar 4) (tCons (tVar 5) (tCons (tFld K (tVar 1) "numbers") tNil)))))) tNil)))))
def sp_on_check (K : PySem.W.Frag) (w : World) : Sp := fun vs H Q _ => vs.length = 3 ∧ t_on_check K w { nx := fun _ H' => Q .non H', rt := Q } (start N_on_check vs) H
abbrev N_on_if : List Str := ["machine", "frame", "row", "first", "sign", "second", "there"]
def t_on_if (K : PySem.W.Frag) (w : World) : TS :=
  (tSeq (tAsg (tOp (rIx K) (tVar 2) (tC (.int (3)))) (gTup K 4 (gCons (gName 3) (gCons (gName 4) (gCons (gName 5) (gCons (gName 6) gNil)))))) (tIfS (tB (tCall (sp_is_so K w) [] E0 (tCons (tVar 3) (tCons (tVar 4) (tCons (tVar 5) (tCons (tFld K (tVar 1) "numbers") tNil)))))) (sFld K (tVar 1) (tVar 6) "at") tNext))
def sp_on_if (K : PySem.W.Frag) (w : World) : Sp := fun vs H Q _ => vs.length = 3 ∧ t_on_if K w { nx := fun _ H' => Q .non H', rt := Q } (start N_on_if vs) H
abbrev N_on_go : List Str := ["machine", "frame", "row"]
def t_on_go (K : PySem.W.Frag) (w : World) : TS :=
  (sFld K (tVar 1) (tOp (rIx K) (tOp (rIx K) (tVar 2) (tC (.int (3)))) (tC (.int (0)))) "at")
def sp_on_go (K : PySem.W.Frag) (w : World) : Sp := fun vs H Q _ => vs.length = 3 ∧ t_on_go K w { nx := fun _ H' => Q .non H', rt := Q } (start N_on_go vs) H
abbrev N_on_call : List Str := ["machine", "frame", "row", "name", "number", "given", "head", "inner", "param", "one"]
def t_on_call (K : PySem.W.Frag) (w : World) : TS :=
  (tSeq (tAsg (tOp (rIx K) (tVar 2) (tC (.int (3)))) (gTup K 3 (gCons (gName 3) (gCons (gName 4) (gCons (gName 5) gNil))))) (tSeq (tIfS (tTest (tOp rGtX (tCB (rLenX K) (tCons (tFld K (tVar 0) "frames") tNil)) (tC (.int (20))))) (tSeq (sFld K (tVar 0) (tTup (tCons (tC (.str "fault")) (tCons (tC (.str "deep")) (tCons (tOp (rIx K) (tVar 2) (tC (.int (1)))) tNil)))) "end") tRetN) tNext) (tSeq (tAsg (tOp (rIx K) (tFld K (tVar 0) "code") (tVar 4)) (gName 6)) (tSeq (tAsg (tMake (He.ga K "Frame") (sp_Frame_init K w) [] E0 (tCons (tVar 6) (tCons (tFld K (tVar 0) "top") tNil))) (gName 7)) (tSeq (tFor (iZipX K (tCons (tOp (rIx K) (tVar 6) (tC (.int (1)))) (tCons (tVar 5) tNil))) (gTup K 2 (gCons (gName 8) (gCons (gName 9) gNil))) (tIfS (tB (tDIn (tVar 9) (tFld K (tVar 1) "lain"))) (sDPut (tFld K (tVar 7) "lain") (tVar 8) (tMeth (He.ga K "Machine") "laid" (sp_Machine_laid K w) [] E0 (tVar 0) (tCons (tMeth (He.ga K "Machine") "cells" (sp_Machine_cells K w) [] E0 (tVar 0) (tCons (tDGet (tFld K (tVar 1) "lain") (tVar 9)) tNil)) tNil))) (sDPut (tFld K (tVar 7) "numbers") (tVar 8) (tDGet (tFld K (tVar 1) "numbers") (tVar 9))))) (tDrop (tBM K "list" rAppend (tFld K (tVar 0) "frames") (tCons (tVar 7) tNil))))))))
def sp_on_call (K : PySem.W.Frag) (w : World) : Sp := fun vs H Q _ => vs.length = 3 ∧ t_on_call K w { nx := fun _ H' => Q .non H', rt := Q } (start N_on_call vs) H
abbrev N_on_back : List Str := ["machine", "frame", "row", "word", "outer", "call"]
def t_on_back (K : PySem.W.Frag) (w : World) : TS :=
  (tSeq (tAsg (tDGet (tFld K (tVar 1) "numbers") (tOp (rIx K) (tOp (rIx K) (tVar 2) (tC (.int (3)))) (tC (.int (0))))) (gName 3)) (tSeq (tDrop (tBM0 K "list" rPopX (tFld K (tVar 0) "frames"))) (tSeq (sFld K (tVar 0) (tFld K (tVar 1) "ahead") "top") (tIfS (tTest (tOp (rEqX K) (tFld K (tVar 0) "frames") (tLst tNil))) (sFld K (tVar 0) (tTup (tCons (tC (.str "back")) (tCons (tVar 3) tNil))) "end") (tSeq (tAsg (tOp (rIx K) (tFld K (tVar 0) "frames") (tUn rNegX (tC (.int (1))))) (gName 4)) (tSeq (tAsg (tOp (rIx K) (tFld K (tVar 0) "code") (tOp rSubX (tFld K (tVar 4) "at") (tC (.int (1))))) (gName 5)) (sDPut (tFld K (tVar 4) "numbers") (tOp (rIx K) (tOp (rIx K) (tVar 5) (tC (.int (3)))) (tC (.int (0)))) (tVar 3))))))))
def sp_on_back (K : PySem.W.Frag) (w : World) : Sp := fun vs H Q _ => vs.length = 3 ∧ t_on_back K w { nx := fun _ H' => Q .non H', rt := Q } (start N_on_back vs) H
def Doing (K : PySem.W.Frag) (w : World) : Addr → Sp → Prop := fun f sp =>
  (f = He.ga K "on_set" ∧ sp = sp_on_set K w) ∨ (f = He.ga K "on_sum" ∧ sp = sp_on_sum K w) ∨ (f = He.ga K "on_over" ∧ sp = sp_on_over K w) ∨ (f = He.ga K "on_mid" ∧ sp = sp_on_mid K w) ∨ (f = He.ga K "on_row" ∧ sp = sp_on_row K w) ∨ (f = He.ga K "on_get" ∧ sp = sp_on_get K w) ∨ (f = He.ga K "on_put" ∧ sp = sp_on_put K w) ∨ (f = He.ga K "on_length" ∧ sp = sp_on_length K w) ∨ (f = He.ga K "on_ask" ∧ sp = sp_on_ask K w) ∨ (f = He.ga K "on_tell" ∧ sp = sp_on_tell K w) ∨ (f = He.ga K "on_check" ∧ sp = sp_on_check K w) ∨ (f = He.ga K "on_if" ∧ sp = sp_on_if K w) ∨ (f = He.ga K "on_go" ∧ sp = sp_on_go K w) ∨ (f = He.ga K "on_call" ∧ sp = sp_on_call K w) ∨ (f = He.ga K "on_back" ∧ sp = sp_on_back K w)
abbrev N_Machine_step : List Str := ["self", "frame", "row", "doing"]
def t_Machine_step (K : PySem.W.Frag) (w : World) : TS :=
  (tSeq (tAsg (tOp (rIx K) (tFld K (tVar 0) "frames") (tUn rNegX (tC (.int (1))))) (gName 1)) (tSeq (tAsg (tOp (rIx K) (tFld K (tVar 0) "code") (tFld K (tVar 1) "at")) (gName 2)) (tSeq (tIfS (tTest (tOp (rEqX K) (tFld K (tVar 0) "many") (tFld K (tVar 0) "most"))) (tSeq (sFld K (tVar 0) (tTup (tCons (tC (.str "fault")) (tCons (tC (.str "steps")) (tCons (tOp (rIx K) (tVar 2) (tC (.int (1)))) tNil)))) "end") tRetN) tNext) (tSeq (sFldAug K (tVar 0) (tC (.int (1))) rAdd "many") (tSeq (sFld K (tVar 1) (tOp (rIx K) (tVar 2) (tC (.int (4)))) "at") (tSeq (tAsg (tOp (rIxD K w) (tC (.ref (He.ga K "DOINGS"))) (tOp (rIx K) (tVar 2) (tC (.int (0))))) (gName 3)) (tDrop (tCallX 3 (Doing K w) (tCons (tVar 0) (tCons (tVar 1) (tCons (tVar 2) tNil)))))))))))
def sp_Machine_step (K : PySem.W.Frag) (w : World) : Sp := fun vs H Q _ => vs.length = 1 ∧ t_Machine_step K w { nx := fun _ H' => Q .non H', rt := Q } (start N_Machine_step vs) H
abbrev N_run_rows : List Str := ["rows", "words", "steps", "machine"]
def t_run_rows (K : PySem.W.Frag) (w : World) : TS :=
  (tSeq (tAsg (tMake (He.ga K "Machine") (sp_Machine_init K w) [] E0 (tCons (tVar 0) (tCons (tVar 1) (tCons (tVar 2) tNil)))) (gName 3)) (tSeq (tWhile (tTest (tOp rIsNX (tFld K (tVar 3) "end") (tC .non))) (tDrop (tMeth (He.ga K "Machine") "step" (sp_Machine_step K w) [] E0 (tVar 3) tNil))) (tRet (tTup (tCons (tCB (rTupX K) (tCons (tFld K (tVar 3) "told") tNil)) (tCons (tFld K (tVar 3) "end") (tCons (tFld K (tVar 3) "many") (tCons (tFld K (tVar 3) "looks") tNil))))))))
def sp_run_rows (K : PySem.W.Frag) (w : World) : Sp := fun vs H Q _ => vs.length = 3 ∧ t_run_rows K w { nx := fun _ H' => Q .non H', rt := Q } (start N_run_rows vs) H
abbrev N__law_tape : List Str := ["script", "k", "cell", "own"]
def t__law_tape (K : PySem.W.Frag) (w : World) : TS :=
  (tSeq (tAsg (tOp (rAddX K) (tOp rMulX (tC (.int (60029))) (tVar 1)) (tC (.int (3001)))) (gName 2)) (C8.tCut (tIfS (tTest (tOp rLtX (tVar 1) (tCB (rLenX K) (tCons (tVar 0) tNil)))) (tAsg (tOp (rIx K) (tVar 0) (tVar 1)) (gName 2)) tNext) (tSeq (tAsg (tC (.int (0))) (gName 3)) (C8.tCut (tIfS (tTest (tOp rGeX (tVar 2) (tOp rPowX (tC (.int (10))) (tC (.int (18)))))) (tAsg (tOp rSubX (tVar 2) (tOp rPowX (tC (.int (10))) (tC (.int (18))))) (gName 3)) tNext) (tRet (tLst (tCons (tVar 3) (tCons (tOp (rAddX K) (tOp rModX (tVar 2) (tC (.int (4611686018427387847)))) (tOp rMulX (tC (.int (59))) (tVar 1))) (tCons (tC (.int (0))) tNil)))))))))
def sp__law_tape (K : PySem.W.Frag) (w : World) : Sp := fun vs H Q _ => vs.length = 2 ∧ t__law_tape K w { nx := fun _ H' => Q .non H', rt := Q } (start N__law_tape vs) H
abbrev N__law_draw : List Str := ["tape", "many", "digit", "primes", "prime", "first", "second"]
def t__law_draw (K : PySem.W.Frag) (w : World) : TS :=
  (tSeq (tIfS (tTest (tOp rGeX (tOp (rIx K) (tVar 0) (tC (.int (0)))) (tVar 1))) (tSeq (tAsg (tOp rModX (tOp (rIx K) (tVar 0) (tC (.int (0)))) (tVar 1)) (gName 2)) (tSeq (tAsg (tOp rFdvX (tOp (rIx K) (tVar 0) (tC (.int (0)))) (tVar 1)) (gSub (tVar 0) (tC (.int (0))) rSetL)) (tRet (tVar 2)))) tNext) (tSeq (tAsg (tOp (rAddX K) (tOp (rIx K) (tVar 0) (tC (.int (2)))) (tC (.int (1)))) (gSub (tVar 0) (tC (.int (2))) rSetL)) (tSeq (tAsg (tLst (tCons (tC (.int (2147483489))) (tCons (tC (.int (2147483477))) (tCons (tC (.int (2147483423))) (tCons (tC (.int (2147483399))) (tCons (tC (.int (2147483353))) (tCons (tC (.int (2147483323))) (tCons (tC (.int (2147483269))) (tCons (tC (.int (2147483249))) tNil))))))))) (gName 3)) (tSeq (tAsg (tOp (rIx K) (tVar 3) (tOp rModX (tOp (rIx K) (tVar 0) (tC (.int (2)))) (tC (.int (8))))) (gName 4)) (tSeq (tAsg (tOp (rAddX K) (tOp rMulX (tOp rModX (tOp (rIx K) (tVar 0) (tC (.int (1)))) (tVar 4)) (tOp (rAddX K) (tOp rMulX (tC (.int (2))) (tOp (rIx K) (tVar 0) (tC (.int (2))))) (tC (.int (7))))) (tOp rMulX (tC (.int (7001))) (tOp (rIx K) (tVar 0) (tC (.int (2)))))) (gName 5)) (tSeq (tAsg (tOp rModX (tOp rPowX (tVar 5) (tC (.int (3)))) (tVar 4)) (gName 5)) (tSeq (tAsg (tOp (rAddX K) (tOp (rAddX K) (tOp rMulX (tVar 5) (tVar 5)) (tOp rModX (tOp (rIx K) (tVar 0) (tC (.int (1)))) (tC (.int (1000033))))) (tOp (rIx K) (tVar 0) (tC (.int (2))))) (gName 6)) (tRet (tOp rModX (tOp rFdvX (tOp rModX (tOp rPowX (tVar 6) (tC (.int (5)))) (tOp (rIx K) (tVar 3) (tOp rModX (tOp (rAddX K) (tOp (rIx K) (tVar 0) (tC (.int (2)))) (tC (.int (3)))) (tC (.int (8)))))) (tC (.int (11)))) (tVar 1))))))))))
def sp__law_draw (K : PySem.W.Frag) (w : World) : Sp := fun vs H Q _ => vs.length = 2 ∧ t__law_draw K w { nx := fun _ H' => Q .non H', rt := Q } (start N__law_draw vs) H
abbrev N__law_pick : List Str := ["tape", "some"]
def t__law_pick (K : PySem.W.Frag) (w : World) : TS :=
  (tRet (tOp (rIx K) (tVar 1) (tCall (sp__law_draw K w) [] E0 (tCons (tVar 0) (tCons (tCB (rLenX K) (tCons (tVar 1) tNil)) tNil)))))
def sp__law_pick (K : PySem.W.Frag) (w : World) : Sp := fun vs H Q _ => vs.length = 2 ∧ t__law_pick K w { nx := fun _ H' => Q .non H', rt := Q } (start N__law_pick vs) H
abbrev N__law_a_word : List Str := ["tape", "wide", "some"]
def t__law_a_word (K : PySem.W.Frag) (w : World) : TS :=
  (tSeq (tAsg (tLst (tCons (tC (.int (0))) (tCons (tC (.int (1))) (tCons (tOp rSubX (tC (.int (0))) (tC (.int (1)))) (tCons (tVar 1) (tCons (tOp rSubX (tC (.int (0))) (tVar 1)) (tCons (tOp rSubX (tCall (sp__law_draw K w) [] E0 (tCons (tVar 0) (tCons (tOp (rAddX K) (tOp rMulX (tC (.int (2))) (tVar 1)) (tC (.int (1)))) tNil))) (tVar 1)) (tCons (tCall (sp__law_draw K w) [] E0 (tCons (tVar 0) (tCons (tOp (rAddX K) (tVar 1) (tC (.int (1)))) tNil))) tNil)))))))) (gName 2)) (tRet (tCall (sp__law_pick K w) [] E0 (tCons (tVar 0) (tCons (tVar 2) tNil)))))
def sp__law_a_word (K : PySem.W.Frag) (w : World) : Sp := fun vs H Q _ => vs.length = 2 ∧ t__law_a_word K w { nx := fun _ H' => Q .non H', rt := Q } (start N__law_a_word vs) H
abbrev N__law_head : List Str := ["tape", "k", "head", "every"]
def t__law_head (K : PySem.W.Frag) (w : World) : TS :=
  (tSeq (tAsg (tDisp (((tC (.str "name")), (tOp (rIx K) (tLst (tCons (tC (.str "main")) (tCons (tC (.str "f")) (tCons (tC (.str "g")) tNil)))) (tVar 1))) :: (((tC (.str "plain")), (tSl (rSlX K) (tLst (tCons (tC (.str "x")) (tCons (tC (.str "y")) (tCons (tC (.str "z")) tNil)))) tNoPart (tPart (tOp (rAddX K) (tC (.int (1))) (tCall (sp__law_draw K w) [] E0 (tCons (tVar 0) (tCons (tC (.int (3))) tNil))))))) :: []))) (gName 2)) (tSeq (sDPut (tVar 2) (tC (.str "fingers")) (tSl (rSlX K) (tLst (tCons (tC (.str "p")) (tCons (tC (.str "q")) tNil))) tNoPart (tPart (tCall (sp__law_draw K w) [] E0 (tCons (tVar 0) (tCons (tC (.int (3))) tNil)))))) (tSeq (sDPut (tVar 2) (tC (.str "rows")) (tSl (rSlX K) (tLst (tCons (tC (.str "a")) (tCons (tC (.str "b")) tNil))) tNoPart (tPart (tCall (sp__law_pick K w) [] E0 (tCons (tVar 0) (tCons (tLst (tCons (tC (.int (0))) (tCons (tC (.int (1))) (tCons (tC (.int (1))) (tCons (tC (.int (1))) (tCons (tC (.int (2))) tNil)))))) tNil)))))) (tSeq (sDPut (tVar 2) (tC (.str "params")) (tLst tNil)) (C8.tCut (tIfS (tTest (tOp rGtX (tVar 1) (tC (.int (0))))) (tSeq (tAsg (tOp (rAddX K) (tOp (rAddX K) (tDGet (tVar 2) (tC (.str "plain"))) (tDGet (tVar 2) (tC (.str "fingers")))) (tDGet (tVar 2) (tC (.str "rows")))) (gName 3)) (tWhile (tAnd (tTest (tOp (rNeX K) (tVar 3) (tLst tNil))) (tTest (tOp rGtX (tCall (sp__law_draw K w) [] E0 (tCons (tVar 0) (tCons (tC (.int (3))) tNil))) (tC (.int (0)))))) (tDrop (tBM K "list" rAppend (tDGet (tVar 2) (tC (.str "params"))) (tCons (tBM K "list" rPopX (tVar 3) (tCons (tCall (sp__law_draw K w) [] E0 (tCons (tVar 0) (tCons (tCB (rLenX K) (tCons (tVar 3) tNil)) tNil))) tNil)) tNil))))) tNext) (tRet (tVar 2)))))))
def sp__law_head (K : PySem.W.Frag) (w : World) : Sp := fun vs H Q _ => vs.length = 2 ∧ t__law_head K w { nx := fun _ H' => Q .non H', rt := Q } (start N__law_head vs) H
abbrev N__law_numbers : List Str := ["head"]
def t__law_numbers (K : PySem.W.Frag) (w : World) : TS :=
  (tRet (tOp (rAddX K) (tDGet (tVar 0) (tC (.str "plain"))) (tDGet (tVar 0) (tC (.str "fingers")))))
def sp__law_numbers (K : PySem.W.Frag) (w : World) : Sp := fun vs H Q _ => vs.length = 1 ∧ t__law_numbers K w { nx := fun _ H' => Q .non H', rt := Q } (start N__law_numbers vs) H
abbrev N__law_a_side : List Str := ["tape", "head", "wide"]
def t__law_a_side (K : PySem.W.Frag) (w : World) : TS :=
  (tRet (tCall (sp__law_pick K w) [] E0 (tCons (tVar 0) (tCons (tLst (tCons (tCall (sp__law_pick K w) [] E0 (tCons (tVar 0) (tCons (tCall (sp__law_numbers K w) [] E0 (tCons (tVar 1) tNil)) tNil))) (tCons (tCall (sp__law_pick K w) [] E0 (tCons (tVar 0) (tCons (tCall (sp__law_numbers K w) [] E0 (tCons (tVar 1) tNil)) tNil))) (tCons (tCall (sp__law_a_word K w) [] E0 (tCons (tVar 0) (tCons (tVar 2) tNil))) tNil)))) tNil))))
def sp__law_a_side (K : PySem.W.Frag) (w : World) : Sp := fun vs H Q _ => vs.length = 3 ∧ t__law_a_side K w { nx := fun _ H' => Q .non H', rt := Q } (start N__law_a_side vs) H
abbrev N__law_test : List Str := ["tape", "head", "wide"]
def t__law_test (K : PySem.W.Frag) (w : World) : TS :=
  (tRet (tTup (tCons (tCall (sp__law_a_side K w) [] E0 (tCons (tVar 0) (tCons (tVar 1) (tCons (tVar 2) tNil)))) (tCons (tCall (sp__law_pick K w) [] E0 (tCons (tVar 0) (tCons (tLst (tCons (tC (.str "<")) (tCons (tC (.str "<=")) tNil))) tNil))) (tCons (tCall (sp__law_a_side K w) [] E0 (tCons (tVar 0) (tCons (tVar 1) (tCons (tVar 2) tNil)))) tNil)))))
def sp__law_test (K : PySem.W.Frag) (w : World) : Sp := fun vs H Q _ => vs.length = 3 ∧ t__law_test K w { nx := fun _ H' => Q .non H', rt := Q } (start N__law_test vs) H
abbrev N__law_kind : List Str := ["head", "name", "kind"]
def t__law_kind (K : PySem.W.Frag) (w : World) : TS :=
  (tRet (tOp (rIx K) (tLc (iSeqX K (tLst (tCons (tC (.str "plain")) (tCons (tC (.str "fingers")) (tCons (tC (.str "rows")) tNil))))) (gName 2) (tTest (tOp (rInX K false) (tVar 1) (tDGet (tVar 0) (tVar 2)))) (tVar 2) [2]) (tC (.int (0)))))
def sp__law_kind (K : PySem.W.Frag) (w : World) : Sp := fun vs H Q _ => vs.length = 2 ∧ t__law_kind K w { nx := fun _ H' => Q .non H', rt := Q } (start N__law_kind vs) H
abbrev N__law_call : List Str := ["tape", "head", "other", "names", "param", "kind", "some"]
def t__law_call (K : PySem.W.Frag) (w : World) : TS :=
  (tSeq (tAsg (tLst tNil) (gName 3)) (tSeq (tFor (iSeqX K (tDGet (tVar 2) (tC (.str "params")))) (gName 4) (tSeq (tAsg (tCall (sp__law_kind K w) [] E0 (tCons (tVar 2) (tCons (tVar 4) tNil))) (gName 5)) (tSeq (tAsg (tOp (rIx K) (tLst (tCons (tDGet (tVar 1) (tVar 5)) (tCons (tCall (sp__law_numbers K w) [] E0 (tCons (tVar 1) tNil)) tNil))) (tCB rInt1X (tCons (tOp (rEqX K) (tVar 5) (tC (.str "plain"))) tNil))) (gName 6)) (tSeq (tIfS (tTest (tOp (rEqX K) (tVar 6) (tLst tNil))) (tRet (tTup (tCons (tC (.str "tell")) (tCons (tOp (rIx K) (tDGet (tVar 1) (tC (.str "plain"))) (tC (.int (0)))) tNil)))) tNext) (tDrop (tBM K "list" rAppend (tVar 3) (tCons (tCall (sp__law_pick K w) [] E0 (tCons (tVar 0) (tCons (tVar 6) tNil))) tNil))))))) (tRet (tTup (tCons (tC (.str "call")) (tCons (tCall (sp__law_pick K w) [] E0 (tCons (tVar 0) (tCons (tDGet (tVar 1) (tC (.str "plain"))) tNil))) (tCons (tDGet (tVar 2) (tC (.str "name"))) (tCons (tCB (rTupX K) (tCons (tVar 3) tNil)) tNil))))))))
def sp__law_call (K : PySem.W.Frag) (w : World) : Sp := fun vs H Q _ => vs.length = 3 ∧ t__law_call K w { nx := fun _ H' => Q .non H', rt := Q } (start N__law_call vs) H
abbrev N__law_row_act : List Str := ["tape", "head", "wide", "a", "number", "place", "way"]
def t__law_row_act (K : PySem.W.Frag) (w : World) : TS :=
  (tSeq (tPar 3 4 (tCons (tCall (sp__law_pick K w) [] E0 (tCons (tVar 0) (tCons (tDGet (tVar 1) (tC (.str "rows"))) tNil))) (tCons (tCall (sp__law_pick K w) [] E0 (tCons (tVar 0) (tCons (tCall (sp__law_numbers K w) [] E0 (tCons (tVar 1) tNil)) tNil))) tNil))) (tSeq (tAsg (tCall (sp__law_pick K w) [] E0 (tCons (tVar 0) (tCons (tOp (rAddX K) (tDGet (tVar 1) (tC (.str "fingers"))) (tCall (sp__law_numbers K w) [] E0 (tCons (tVar 1) tNil))) tNil))) (gName 5)) (tSeq (tAsg (tCall (sp__law_draw K w) [] E0 (tCons (tVar 0) (tCons (tC (.int (5))) tNil))) (gName 6)) (tSeq (tIfS (tTest (tOp (rEqX K) (tVar 6) (tC (.int (0))))) (tRet (tTup (tCons (tC (.str "row")) (tCons (tVar 3) (tCons (tVar 4) tNil))))) tNext) (tSeq (tIfS (tTest (tOp (rEqX K) (tVar 6) (tC (.int (1))))) (tRet (tTup (tCons (tC (.str "length")) (tCons (tCall (sp__law_pick K w) [] E0 (tCons (tVar 0) (tCons (tOp (rAddX K) (tDGet (tVar 1) (tC (.str "fingers"))) (tCall (sp__law_numbers K w) [] E0 (tCons (tVar 1) tNil))) tNil))) (tCons (tVar 3) tNil))))) tNext) (tSeq (tIfS (tTest (tOp rLtX (tVar 6) (tC (.int (4))))) (tRet (tTup (tCons (tC (.str "get")) (tCons (tCall (sp__law_pick K w) [] E0 (tCons (tVar 0) (tCons (tDGet (tVar 1) (tC (.str "plain"))) tNil))) (tCons (tVar 3) (tCons (tVar 5) tNil)))))) tNext) (tRet (tTup (tCons (tC (.str "put")) (tCons (tVar 3) (tCons (tVar 5) (tCons (tVar 4) tNil))))))))))))
def sp__law_row_act (K : PySem.W.Frag) (w : World) : Sp := fun vs H Q _ => vs.length = 3 ∧ t__law_row_act K w { nx := fun _ H' => Q .non H', rt := Q } (start N__law_row_act vs) H
abbrev N__law_finger_act : List Str := ["tape", "head", "wide", "p", "q", "way"]
def t__law_finger_act (K : PySem.W.Frag) (w : World) : TS :=
  (tSeq (tPar 3 4 (tCons (tCall (sp__law_pick K w) [] E0 (tCons (tVar 0) (tCons (tDGet (tVar 1) (tC (.str "fingers"))) tNil))) (tCons (tCall (sp__law_pick K w) [] E0 (tCons (tVar 0) (tCons (tDGet (tVar 1) (tC (.str "fingers"))) tNil))) tNil))) (tSeq (tAsg (tCall (sp__law_draw K w) [] E0 (tCons (tVar 0) (tCons (tC (.int (4))) tNil))) (gName 5)) (tSeq (tIfS (tTest (tOp (rEqX K) (tVar 5) (tC (.int (0))))) (tRet (tTup (tCons (tC (.str "set")) (tCons (tVar 3) (tCons (tCall (sp__law_a_word K w) [] E0 (tCons (tVar 0) (tCons (tVar 2) tNil))) tNil))))) tNext) (tSeq (tIfS (tTest (tOp (rEqX K) (tVar 5) (tC (.int (1))))) (tRet (tTup (tCons (tC (.str "mid")) (tCons (tVar 3) (tCons (tVar 4) (tCons (tCall (sp__law_pick K w) [] E0 (tCons (tVar 0) (tCons (tDGet (tVar 1) (tC (.str "fingers"))) tNil))) tNil)))))) tNext) (tRet (tTup (tCons (tC (.str "add")) (tCons (tVar 3) (tCons (tVar 4) (tCons (tCall (sp__law_pick K w) [] E0 (tCons (tVar 0) (tCons (tLst (tCons (tC (.int (1))) (tCons (tC (.int (1))) (tCons (tOp rSubX (tC (.int (0))) (tC (.int (1)))) (tCons (tC (.int (0))) (tCons (tCall (sp__law_a_word K w) [] E0 (tCons (tVar 0) (tCons (tVar 2) tNil))) tNil)))))) tNil))) tNil))))))))))
def sp__law_finger_act (K : PySem.W.Frag) (w : World) : Sp := fun vs H Q _ => vs.length = 3 ∧ t__law_finger_act K w { nx := fun _ H' => Q .non H', rt := Q } (start N__law_finger_act vs) H
abbrev N__law_act : List Str := ["tape", "head", "heads", "wide", "x", "y", "z", "way", "low", "high"]
def t__law_act (K : PySem.W.Frag) (w : World) : TS :=
  (tSeq (tPar3 4 5 6 (tCons (tCall (sp__law_pick K w) [] E0 (tCons (tVar 0) (tCons (tDGet (tVar 1) (tC (.str "plain"))) tNil))) (tCons (tCall (sp__law_pick K w) [] E0 (tCons (tVar 0) (tCons (tDGet (tVar 1) (tC (.str "plain"))) tNil))) (tCons (tCall (sp__law_pick K w) [] E0 (tCons (tVar 0) (tCons (tDGet (tVar 1) (tC (.str "plain"))) tNil))) tNil)))) (tSeq (tAsg (tCall (sp__law_draw K w) [] E0 (tCons (tVar 0) (tCons (tC (.int (28))) tNil))) (gName 7)) (tSeq (tIfS (tAnd (tTest (tOp rLtX (tVar 7) (tC (.int (6))))) (tTest (tOp (rNeX K) (tDGet (tVar 1) (tC (.str "rows"))) (tLst tNil)))) (tRet (tCall (sp__law_row_act K w) [] E0 (tCons (tVar 0) (tCons (tVar 1) (tCons (tVar 3) tNil))))) tNext) (tSeq (tIfS (tAnd (tTest (tOp rLtX (tVar 7) (tC (.int (10))))) (tTest (tOp (rNeX K) (tDGet (tVar 1) (tC (.str "fingers"))) (tLst tNil)))) (tRet (tCall (sp__law_finger_act K w) [] E0 (tCons (tVar 0) (tCons (tVar 1) (tCons (tVar 3) tNil))))) tNext) (tSeq (tIfS (tTest (tOp rLtX (tVar 7) (tC (.int (14))))) (tRet (tTup (tCons (tCall (sp__law_pick K w) [] E0 (tCons (tVar 0) (tCons (tLst (tCons (tC (.str "plus")) (tCons (tC (.str "minus")) (tCons (tC (.str "times")) (tCons (tC (.str "over")) (tCons (tC (.str "rest")) tNil)))))) tNil))) (tCons (tVar 4) (tCons (tVar 5) (tCons (tVar 6) tNil)))))) tNext) (tSeq (tIfS (tTest (tOp rLtX (tVar 7) (tC (.int (16))))) (tRet (tTup (tCons (tC (.str "add")) (tCons (tVar 4) (tCons (tCall (sp__law_pick K w) [] E0 (tCons (tVar 0) (tCons (tCall (sp__law_numbers K w) [] E0 (tCons (tVar 1) tNil)) tNil))) (tCons (tCall (sp__law_a_word K w) [] E0 (tCons (tVar 0) (tCons (tVar 3) tNil))) tNil)))))) tNext) (tSeq (tIfS (tTest (tOp rLtX (tVar 7) (tC (.int (18))))) (tSeq (tPar 8 9 (tCons (tCall (sp__law_a_word K w) [] E0 (tCons (tVar 0) (tCons (tVar 3) tNil))) (tCons (tCall (sp__law_a_word K w) [] E0 (tCons (tVar 0) (tCons (tVar 3) tNil))) tNil))) (tRet (tTup (tCons (tC (.str "ask")) (tCons (tVar 4) (tCons (tCB rMin2X (tCons (tVar 8) (tCons (tVar 9) tNil))) (tCons (tCB rMax2X (tCons (tVar 8) (tCons (tVar 9) tNil))) tNil))))))) tNext) (tSeq (tIfS (tTest (tOp rLtX (tVar 7) (tC (.int (22))))) (tRet (tOp (rAddX K) (tOp (rAddX K) (tTup (tCons (tC (.str "if")) tNil)) (tCall (sp__law_test K w) [] E0 (tCons (tVar 0) (tCons (tVar 1) (tCons (tVar 3) tNil))))) (tTup (tCons (tCall (sp__law_draw K w) [] E0 (tCons (tVar 0) (tCons (tC (.int (30))) tNil))) tNil)))) tNext) (tSeq (tIfS (tTest (tOp (rEqX K) (tVar 7) (tC (.int (22))))) (tRet (tOp (rAddX K) (tTup (tCons (tC (.str "check")) tNil)) (tCall (sp__law_test K w) [] E0 (tCons (tVar 0) (tCons (tVar 1) (tCons (tVar 3) tNil)))))) tNext) (tSeq (tIfS (tTest (tOp (rEqX K) (tVar 7) (tC (.int (23))))) (tRet (tCall (sp__law_call K w) [] E0 (tCons (tVar 0) (tCons (tVar 1) (tCons (tCall (sp__law_pick K w) [] E0 (tCons (tVar 0) (tCons (tVar 2) tNil))) tNil))))) tNext) (tSeq (tIfS (tTest (tOp (rInX K false) (tVar 7) (tTup (tCons (tC (.int (24))) (tCons (tC (.int (26))) (tCons (tC (.int (27))) tNil)))))) (tRet (tTup (tCons (tOp (rIx K) (tLst (tCons (tC (.str "tell")) (tCons (tC (.str "back")) tNil))) (tCB rInt1X (tCons (tOp rGtX (tVar 7) (tC (.int (24)))) tNil))) (tCons (tCall (sp__law_pick K w) [] E0 (tCons (tVar 0) (tCons (tCall (sp__law_numbers K w) [] E0 (tCons (tVar 1) tNil)) tNil))) tNil)))) tNext) (tRet (tOp (rIx K) (tLst (tCons (tTup (tCons (tC (.str "set")) (tCons (tVar 4) (tCons (tCall (sp__law_a_word K w) [] E0 (tCons (tVar 0) (tCons (tVar 3) tNil))) tNil)))) (tCons (tTup (tCons (tC (.str "mid")) (tCons (tVar 4) (tCons (tVar 5) (tCons (tVar 6) tNil))))) (tCons (tTup (tCons (tC (.str "go")) (tCons (tCall (sp__law_draw K w) [] E0 (tCons (tVar 0) (tCons (tC (.int (30))) tNil))) tNil))) tNil)))) (tCall (sp__law_draw K w) [] E0 (tCons (tVar 0) (tCons (tC (.int (3))) tNil))))))))))))))))
def sp__law_act (K : PySem.W.Frag) (w : World) : Sp := fun vs H Q _ => vs.length = 4 ∧ t__law_act K w { nx := fun _ H' => Q .non H', rt := Q } (start N__law_act vs) H
abbrev N__law_loop : List Str := ["tape", "head", "wide", "a", "p", "x", "last", "touch", "found"]
def t__law_loop (K : PySem.W.Frag) (w : World) : TS :=
  (tSeq (tPar3 3 4 5 (tCons (tOp (rIx K) (tDGet (tVar 1) (tC (.str "rows"))) (tC (.int (0)))) (tCons (tOp (rIx K) (tDGet (tVar 1) (tC (.str "fingers"))) (tC (.int (0)))) (tCons (tOp (rIx K) (tDGet (tVar 1) (tC (.str "plain"))) (tC (.int (0)))) tNil)))) (tSeq (tAsg (tOp (rIx K) (tOp (rAddX K) (tDGet (tVar 1) (tC (.str "fingers"))) (tDGet (tVar 1) (tC (.str "plain")))) (tC (.int (1)))) (gName 6)) (tSeq (tAsg (tCall (sp__law_pick K w) [] E0 (tCons (tVar 0) (tCons (tLst (tCons (tTup (tCons (tC (.str "get")) (tCons (tVar 5) (tCons (tVar 3) (tCons (tVar 4) tNil))))) (tCons (tTup (tCons (tC (.str "put")) (tCons (tVar 3) (tCons (tVar 4) (tCons (tVar 5) tNil))))) (tCons (tTup (tCons (tC (.str "put")) (tCons (tVar 3) (tCons (tVar 4) (tCons (tVar 4) tNil))))) tNil)))) tNil))) (gName 7)) (tSeq (tAsg (tLst (tCons (tTup (tCons (tC (.str "ask")) (tCons (tVar 5) (tCons (tC (.int (0))) (tCons (tCall (sp__law_draw K w) [] E0 (tCons (tVar 0) (tCons (tOp (rAddX K) (tVar 2) (tC (.int (1)))) tNil))) tNil))))) (tCons (tTup (tCons (tC (.str "row")) (tCons (tVar 3) (tCons (tVar 5) tNil)))) (tCons (tTup (tCons (tC (.str "set")) (tCons (tVar 4) (tCons (tCall (sp__law_pick K w) [] E0 (tCons (tVar 0) (tCons (tLst (tCons (tC (.int (0))) (tCons (tC (.int (0))) (tCons (tC (.int (0))) (tCons (tC (.int (1))) tNil))))) tNil))) tNil)))) tNil)))) (gName 8)) (tSeq (tAsg (tOp (rAddX K) (tVar 8) (tLst (tCons (tTup (tCons (tC (.str "length")) (tCons (tVar 6) (tCons (tVar 3) tNil)))) (tCons (tTup (tCons (tC (.str "if")) (tCons (tVar 6) (tCons (tCall (sp__law_pick K w) [] E0 (tCons (tVar 0) (tCons (tLst (tCons (tC (.str "<=")) (tCons (tC (.str "<=")) (tCons (tC (.str "<")) tNil)))) tNil))) (tCons (tVar 4) (tCons (tC (.int (8))) tNil)))))) (tCons (tVar 7) tNil))))) (gName 8)) (tRet (tOp (rAddX K) (tVar 8) (tLst (tCons (tTup (tCons (tC (.str "add")) (tCons (tVar 4) (tCons (tVar 4) (tCons (tC (.int (1))) tNil))))) (tCons (tTup (tCons (tC (.str "go")) (tCons (tCall (sp__law_pick K w) [] E0 (tCons (tVar 0) (tCons (tLst (tCons (tC (.int (3))) (tCons (tC (.int (4))) tNil))) tNil))) tNil))) (tCons (tTup (tCons (tC (.str "tell")) (tCons (tVar 5) tNil))) tNil)))))))))))
def sp__law_loop (K : PySem.W.Frag) (w : World) : Sp := fun vs H Q _ => vs.length = 3 ∧ t__law_loop K w { nx := fun _ H' => Q .non H', rt := Q } (start N__law_loop vs) H
abbrev N__law_steps : List Str := ["tape", "head", "heads", "wide", "most", "acts", "turn", "last", "labels", "act", "found", "label"]
def t__law_steps (K : PySem.W.Frag) (w : World) : TS :=
  (tSeq (tAsg (tLst tNil) (gName 5)) (C8.tCut (tIfS (tAnd (tTest (tOp (rNeX K) (tDGet (tVar 1) (tC (.str "rows"))) (tLst tNil))) (tAnd (tTest (tOp (rNeX K) (tDGet (tVar 1) (tC (.str "fingers"))) (tLst tNil))) (tAnd (tTest (tOp rGtX (tCB (rLenX K) (tCons (tCall (sp__law_numbers K w) [] E0 (tCons (tVar 1) tNil)) tNil)) (tC (.int (1))))) (tTest (tOp (rEqX K) (tCall (sp__law_draw K w) [] E0 (tCons (tVar 0) (tCons (tC (.int (2))) tNil))) (tC (.int (0)))))))) (tAsg (tCall (sp__law_loop K w) [] E0 (tCons (tVar 0) (tCons (tVar 1) (tCons (tVar 3) tNil)))) (gName 5)) tNext) (tSeq (tFor (iRng1 (tCons (tOp (rAddX K) (tC (.int (1))) (tCall (sp__law_draw K w) [] E0 (tCons (tVar 0) (tCons (tVar 4) tNil)))) tNil)) (gName 6) (tDrop (tBM K "list" rAppend (tVar 5) (tCons (tCall (sp__law_act K w) [] E0 (tCons (tVar 0) (tCons (tVar 1) (tCons (tVar 2) (tCons (tVar 3) tNil))))) tNil)))) (tSeq (tAsg (tTup (tCons (tC (.str "back")) (tCons (tCall (sp__law_pick K w) [] E0 (tCons (tVar 0) (tCons (tCall (sp__law_numbers K w) [] E0 (tCons (tVar 1) tNil)) tNil))) tNil))) (gName 7)) (C8.tCut (tIfS (tTest (tOp (rEqX K) (tCall (sp__law_draw K w) [] E0 (tCons (tVar 0) (tCons (tC (.int (6))) tNil))) (tC (.int (0))))) (tAsg (tTup (tCons (tC (.str "go")) (tCons (tCall (sp__law_draw K w) [] E0 (tCons (tVar 0) (tCons (tC (.int (30))) tNil))) tNil))) (gName 7)) tNext) (tSeq (tDrop (tBM K "list" rAppend (tVar 5) (tCons (tVar 7) tNil))) (tSeq (tAsg (tLst (tCons (tCall (sp__law_draw K w) [] E0 (tCons (tVar 0) (tCons (tC (.int (12))) tNil))) tNil)) (gName 8)) (tSeq (tFor (iSeqX K (tSl (rSlX K) (tVar 5) (tPart (tC (.int (1)))) tNoPart)) (gName 9) (tDrop (tBM K "list" rAppend (tVar 8) (tCons (tOp (rAddX K) (tOp (rAddX K) (tOp (rIx K) (tVar 8) (tUn rNegX (tC (.int (1))))) (tC (.int (1)))) (tCall (sp__law_draw K w) [] E0 (tCons (tVar 0) (tCons (tCall (sp__law_pick K w) [] E0 (tCons (tVar 0) (tCons (tLst (tCons (tC (.int (1))) (tCons (tC (.int (10))) (tCons (tC (.int (300))) tNil)))) tNil))) tNil)))) tNil)))) (tSeq (tAsg (tLst tNil) (gName 10)) (tSeq (tFor (iZipX K (tCons (tVar 8) (tCons (tVar 5) tNil))) (gTup K 2 (gCons (gName 11) (gCons (gName 9) gNil))) (C8.tCut (tIfS (tTest (tOp (rInX K false) (tOp (rIx K) (tVar 9) (tC (.int (0)))) (tTup (tCons (tC (.str "if")) (tCons (tC (.str "go")) tNil))))) (tAsg (tOp (rAddX K) (tSl (rSlX K) (tVar 9) tNoPart (tPart (tUn rNegX (tC (.int (1)))))) (tTup (tCons (tOp (rIx K) (tVar 8) (tOp rModX (tOp (rIx K) (tVar 9) (tUn rNegX (tC (.int (1))))) (tCB (rLenX K) (tCons (tVar 8) tNil)))) tNil))) (gName 9)) tNext) (tDrop (tBM K "list" rAppend (tVar 10) (tCons (tTup (tCons (tVar 11) (tCons (tVar 9) tNil))) tNil))))) (tRet (tCB (rTupX K) (tCons (tVar 10) tNil)))))))))))))
def sp__law_steps (K : PySem.W.Frag) (w : World) : Sp := fun vs H Q _ => vs.length = 5 ∧ t__law_steps K w { nx := fun _ H' => Q .non H', rt := Q } (start N__law_steps vs) H
abbrev N__law_program : List Str := ["tape", "wides", "most", "wide", "heads", "defs", "head", "fingers", "lain", "some", "k"]
def t__law_program (K : PySem.W.Frag) (w : World) : TS :=
  (tSeq (tAsg (tCall (sp__law_pick K w) [] E0 (tCons (tVar 0) (tCons (tVar 1) tNil))) (gName 3)) (tSeq (tAsg (tLc (iRng1 (tCons (tOp (rAddX K) (tC (.int (1))) (tCall (sp__law_pick K w) [] E0 (tCons (tVar 0) (tCons (tLst (tCons (tC (.int (0))) (tCons (tC (.int (0))) (tCons (tC (.int (1))) (tCons (tC (.int (1))) (tCons (tC (.int (2))) tNil)))))) tNil)))) tNil)) (gName 10) tYes (tCall (sp__law_head K w) [] E0 (tCons (tVar 0) (tCons (tVar 10) tNil))) [10]) (gName 4)) (tSeq (tAsg (tLst tNil) (gName 5)) (tSeq (tFor (iSeqX K (tVar 4)) (gName 6) (tSeq (tPar 7 8 (tCons (tCB (rTupX K) (tCons (tDGet (tVar 6) (tC (.str "fingers"))) tNil)) (tCons (tCB (rTupX K) (tCons (tDGet (tVar 6) (tC (.str "rows"))) tNil)) tNil))) (tSeq (tAsg (tCall (sp__law_steps K w) [] E0 (tCons (tVar 0) (tCons (tVar 6) (tCons (tVar 4) (tCons (tVar 3) (tCons (tVar 2) tNil)))))) (gName 9)) (tDrop (tBM K "list" rAppend (tVar 5) (tCons (tTup (tCons (tDGet (tVar 6) (tC (.str "name"))) (tCons (tCB (rTupX K) (tCons (tDGet (tVar 6) (tC (.str "params"))) tNil)) (tCons (tVar 7) (tCons (tVar 8) (tCons (tVar 9) tNil)))))) tNil)))))) (C8.tCut (tIfS (tTest (tOp (rEqX K) (tCall (sp__law_draw K w) [] E0 (tCons (tVar 0) (tCons (tC (.int (2))) tNil))) (tC (.int (0))))) (tDrop (tBM0 K "list" rReverse (tVar 5))) tNext) (tRet (tTup (tCons (tVar 3) (tCons (tCB (rTupX K) (tCons (tVar 5) tNil)) tNil)))))))))
def sp__law_program (K : PySem.W.Frag) (w : World) : Sp := fun vs H Q _ => vs.length = 3 ∧ t__law_program K w { nx := fun _ H' => Q .non H', rt := Q } (start N__law_program vs) H
abbrev N__law_handed : List Str := ["tape", "wide", "many", "turn"]
def t__law_handed (K : PySem.W.Frag) (w : World) : TS :=
  (tRet (tCB (rTupX K) (tCons (tLc (iRng1 (tCons (tCall (sp__law_draw K w) [] E0 (tCons (tVar 0) (tCons (tOp (rAddX K) (tVar 2) (tC (.int (1)))) tNil))) tNil)) (gName 3) tYes (tCall (sp__law_a_word K w) [] E0 (tCons (tVar 0) (tCons (tVar 1) tNil))) [3]) tNil)))
def sp__law_handed (K : PySem.W.Frag) (w : World) : Sp := fun vs H Q _ => vs.length = 3 ∧ t__law_handed K w { nx := fun _ H' => Q .non H', rt := Q } (start N__law_handed vs) H
abbrev N__law_first : List Str := ["plan", "acts", "one"]
def t__law_first (K : PySem.W.Frag) (w : World) : TS :=
  (tSeq (tAsg (tOp (rIx K) (tLc (iSeqX K (tOp (rIx K) (tVar 0) (tC (.int (1))))) (gName 2) (tTest (tOp (rEqX K) (tOp (rIx K) (tVar 2) (tC (.int (0)))) (tC (.str "main")))) (tOp (rIx K) (tVar 2) (tC (.int (4)))) [2]) (tC (.int (0)))) (gName 1)) (tRet (tTup (tCons (tC (.str "main")) (tCons (tOp (rIx K) (tOp (rIx K) (tVar 1) (tC (.int (0)))) (tC (.int (0)))) tNil)))))
def sp__law_first (K : PySem.W.Frag) (w : World) : Sp := fun vs H Q _ => vs.length = 1 ∧ t__law_first K w { nx := fun _ H' => Q .non H', rt := Q } (start N__law_first vs) H
def kb_compiled_1_left_out (K : PySem.W.Frag) : List V → List V → List V := fun vs zs => vs ++ zs
def kb_compiled_0_left_out_program (K : PySem.W.Frag) : List V → List V → List V := fun _ zs => zs.reverse
def dflW (K : PySem.W.Frag) : V := .ref (He.dflAt ("run_rows", none) 0 K)
def kb_run_rows_2_steps (K : PySem.W.Frag) : List V → List V → List V := fun vs zs => vs ++ zs
def kb_run_rows_1_words_steps (K : PySem.W.Frag) : List V → List V → List V := fun vs zs => vs ++ zs
def kb_run_rows_0_steps_words_rows (K : PySem.W.Frag) : List V → List V → List V := fun _ zs => zs.reverse
def kb_run_rows_1_steps (K : PySem.W.Frag) : List V → List V → List V := fun vs zs => vs ++ ([dflW K] ++ zs)
def dv_run_rows_d1 (K : PySem.W.Frag) : List V := [dflW K, .int 200]
abbrev N_law : List Str := ["script", "tape", "k", "programs", "results", "plan", "out", "codes", "given", "one", "kept", "turn", "handed", "bounds", "due", "at", "found", "place", "why"]
def t_law (K : PySem.W.Frag) (w : World) : TS :=
  (tSeq (tAsg (tCall (sp__law_tape K w) [] E0 (tCons (tVar 0) (tCons (tC (.int (0))) tNil))) (gName 1)) (tSeq (tAsg (tLc (iRng1 (tCons (tC (.int (2))) tNil)) (gName 2) tYes (tCall (sp__law_program K w) [] E0 (tCons (tVar 1) (tCons (tLst (tCons (tC (.int (1))) (tCons (tC (.int (2))) (tCons (tC (.int (3))) (tCons (tC (.int (6))) (tCons (tC (.int (31))) tNil)))))) (tCons (tC (.int (8))) tNil)))) [2]) (gName 3)) (tSeq (tAsg (tLst tNil) (gName 4)) (tSeq (tFor (iSeqX K (tVar 3)) (gName 5) (tSeq (tAsg (tLc (iSeqX K (tCall (sp_looks K w) [] E0 (tCons (tVar 5) tNil))) (gTup K 2 (gCons (gName 17) (gCons (gName 18) gNil))) (tTest (tOp (rEqX K) (tCall (sp__law_draw K w) [] E0 (tCons (tVar 1) (tCons (tC (.int (2))) tNil))) (tC (.int (0))))) (tVar 17) [17, 18]) (gName 6)) (tDrop (tBM K "list" (rExtendX K) (tVar 4) (tCons (tLst (tCons (tTup (tCons (tVar 5) (tCons (tLst tNil) tNil))) (tCons (tTup (tCons (tVar 5) (tCons (tVar 6) tNil))) tNil))) tNil))))) (tSeq (tAsg (tLst tNil) (gName 7)) (tSeq (tFor (iSeqX K (tVar 4)) (gTup K 2 (gCons (gName 5) (gCons (gName 6) gNil))) (tSeq (tAsg (tCB (rLisX K) (tCons (tVar 6) tNil)) (gName 8)) (tSeq (tDrop (tBM K "list" rAppend (tVar 7) (tCons (tCallN 1 1 (sp_compiled K w) (kb_compiled_1_left_out K) E0 (tCons (tVar 5) tNil) (tCons (tVar 8) tNil)) tNil))) (tSeq (tDrop (tBM0 K "list" rClear (tVar 8))) (tDrop (tBM K "list" (rExtendX K) (tVar 8) (tCons (tLc (iSeqX K (tCall (sp_looks K w) [] E0 (tCons (tVar 5) tNil))) (gTup K 2 (gCons (gName 17) (gCons (gName 18) gNil))) (tTest (tOp (rEqX K) (tCall (sp__law_draw K w) [] E0 (tCons (tVar 1) (tCons (tC (.int (2))) tNil))) (tC (.int (0))))) (tVar 17) [17, 18]) tNil))))))) (tSeq (tAsg (tLc (iSeqX K (tVar 7)) (gName 9) tYes (tCB (rReprX K) (tCons (tVar 9) tNil)) [9]) (gName 10)) (tSeq (tAsg (tLc (iRng1 (tCons (tC (.int (4))) tNil)) (gName 11) tYes (tCall (sp__law_handed K w) [] E0 (tCons (tVar 1) (tCons (tC (.int (1))) (tCons (tC (.int (6))) tNil)))) [11]) (gName 12)) (tSeq (tAsg (tLst (tCons (tC (.int (60))) (tCons (tC (.int (60))) (tCons (tCall (sp__law_draw K w) [] E0 (tCons (tVar 1) (tCons (tC (.int (20))) tNil))) (tCons (tC (.int (0))) tNil))))) (gName 13)) (tSeq (tAsg tDNewT (gName 14)) (tSeq (tFor (iRng1 (tCons (tC (.int (8))) tNil)) (gName 11) (tSeq (tPar 15 2 (tCons (tCall (sp__law_draw K w) [] E0 (tCons (tVar 1) (tCons (tC (.int (4))) tNil))) (tCons (tCall (sp__law_draw K w) [] E0 (tCons (tVar 1) (tCons (tC (.int (4))) tNil))) tNil))) (tSeq (tAsg (tOp (rIx K) (tVar 4) (tVar 15)) (gTup K 2 (gCons (gName 5) (gCons (gName 6) gNil)))) (C8.tCut (tIfS (tB (tDNotIn (tTup (tCons (tVar 15) (tCons (tVar 2) tNil))) (tVar 14))) (sDPut (tVar 14) (tTup (tCons (tVar 15) (tCons (tVar 2) tNil))) (tCallN 2 1 (sp_run_rows K w) (kb_run_rows_2_steps K) E0 (tCons (tCallN 0 2 (sp_compiled K w) (kb_compiled_0_left_out_program K) E0 tNil (tCons (tCB (rTupX K) (tCons (tVar 6) tNil)) (tCons (tVar 5) tNil))) (tCons (tOp (rIx K) (tVar 12) (tVar 2)) tNil)) (tCons (tOp (rIx K) (tVar 13) (tVar 2)) tNil))) tNext) (tSeq (tAsg (tIf (tTest (tOp (rEqX K) (tCall (sp__law_draw K w) [] E0 (tCons (tVar 1) (tCons (tC (.int (2))) tNil))) (tC (.int (0))))) (tCB (rLisX K) (tCons (tOp (rIx K) (tVar 7) (tVar 15)) tNil)) (tOp (rIx K) (tVar 7) (tVar 15))) (gName 9)) (tSeq (tAsg (tCallN 1 2 (sp_run_rows K w) (kb_run_rows_1_words_steps K) E0 (tCons (tVar 9) tNil) (tCons (tOp (rIx K) (tVar 12) (tVar 2)) (tCons (tOp (rIx K) (tVar 13) (tVar 2)) tNil))) (gName 16)) (C8.tCut (tIfS (tTest (tOp (rEqX K) (tCall (sp__law_draw K w) [] E0 (tCons (tVar 1) (tCons (tC (.int (2))) tNil))) (tC (.int (0))))) (tAsg (tCallN 0 3 (sp_run_rows K w) (kb_run_rows_0_steps_words_rows K) E0 tNil (tCons (tOp (rIx K) (tVar 13) (tVar 2)) (tCons (tOp (rIx K) (tVar 12) (tVar 2)) (tCons (tVar 9) tNil)))) (gName 16)) tNext) (tIfS (tTest (tOp (rNeX K) (tCB (rReprX K) (tCons (tVar 16) tNil)) (tCB (rReprX K) (tCons (tDGet (tVar 14) (tTup (tCons (tVar 15) (tCons (tVar 2) tNil)))) tNil)))) (tRet (tC (.bl false))) tNext)))))))) (tSeq (tFor (iEnumX K (tCons (tVar 7) tNil)) (gTup K 2 (gCons (gName 2) (gCons (gName 9) gNil))) (tIfS (tTest (tOp (rNeX K) (tCallN 1 1 (sp_run_rows K w) (kb_run_rows_1_steps K) E0 (tCons (tVar 9) tNil) (tCons (tC (.int (0))) tNil)) (tTup (tCons (tTup tNil) (tCons (tTup (tCons (tC (.str "fault")) (tCons (tC (.str "steps")) (tCons (tCall (sp__law_first K w) [] E0 (tCons (tOp (rIx K) (tOp (rIx K) (tVar 4) (tVar 2)) (tC (.int (0)))) tNil)) tNil)))) (tCons (tC (.int (0))) (tCons (tC (.int (0))) tNil))))))) (tRet (tC (.bl false))) tNext)) (tSeq (tIfS (tTest (tOp (rNeX K) (tCall (sp_run_rows K w) (dv_run_rows_d1 K) E0 (tCons (tOp (rIx K) (tVar 7) (tC (.int (0)))) tNil)) (tCallN 2 1 (sp_run_rows K w) (kb_run_rows_2_steps K) E0 (tCons (tOp (rIx K) (tVar 7) (tC (.int (0)))) (tCons (tTup tNil) tNil)) (tCons (tC (.int (200))) tNil)))) (tRet (tC (.bl false))) tNext) (tRet (tOp (rEqX K) (tLc (iSeqX K (tVar 7)) (gName 9) tYes (tCB (rReprX K) (tCons (tVar 9) tNil)) [9]) (tVar 10))))))))))))))))
def sp_law (K : PySem.W.Frag) (w : World) : Sp := fun vs H Q _ => vs.length = 1 ∧ t_law K w { nx := fun _ H' => Q .non H', rt := Q } (start N_law vs) H
end R72


set_option Elab.async false
set_option linter.all false
set_option maxRecDepth 100000
set_option maxHeartbeats 0
namespace H72
open PySem PySem.Spec PyProof.Rows L2
def top (i : Nat) : Stmt := PySem.Challenge.pw_withinall_k72_machines_by_turns.main.body.getD i (.Pass ⟨0, 0, 0, 0⟩)
def kwAt (f : Str × Option Str) (x : Str) (K : PySem.W.Frag) : Addr := match K.lookup (He.fAd K f) with
  | some ⟨_, _, .func fd, _⟩ => (match fd.kwdefaults with
    | .ref D => (match PySem.W.nsIn K D x with
      | some (some (.ref b)) => b
      | _ => 0)
    | _ => 0)
  | _ => 0
abbrev s_act_names : Stmt := top 2
def d_act_names : He.DefD := ⟨("act_names", none), "act_names", "act_names", defArgs s_act_names, defBody s_act_names, defScope s_act_names, [], []⟩
abbrev s_names_of : Stmt := top 3
def d_names_of : He.DefD := ⟨("names_of", none), "names_of", "names_of", defArgs s_names_of, defBody s_names_of, defScope s_names_of, [], []⟩
abbrev s_numbers_of : Stmt := top 4
def d_numbers_of : He.DefD := ⟨("numbers_of", none), "numbers_of", "numbers_of", defArgs s_numbers_of, defBody s_numbers_of, defScope s_numbers_of, [], []⟩
abbrev s_def_at : Stmt := top 5
def d_def_at : He.DefD := ⟨("def_at", none), "def_at", "def_at", defArgs s_def_at, defBody s_def_at, defScope s_def_at, [], []⟩
abbrev s_places_of : Stmt := top 6
def d_places_of : He.DefD := ⟨("places_of", none), "places_of", "places_of", defArgs s_places_of, defBody s_places_of, defScope s_places_of, [], []⟩
abbrev s_act_at : Stmt := top 7
def d_act_at : He.DefD := ⟨("act_at", none), "act_at", "act_at", defArgs s_act_at, defBody s_act_at, defScope s_act_at, [], []⟩
abbrev s_side_of : Stmt := top 10
def d_side_of : He.DefD := ⟨("side_of", none), "side_of", "side_of", defArgs s_side_of, defBody s_side_of, defScope s_side_of, [], []⟩
abbrev s_is_so : Stmt := top 11
def d_is_so : He.DefD := ⟨("is_so", none), "is_so", "is_so", defArgs s_is_so, defBody s_is_so, defScope s_is_so, [], []⟩
abbrev s_looks : Stmt := top 14
def d_looks : He.DefD := ⟨("looks", none), "looks", "looks", defArgs s_looks, defBody s_looks, defScope s_looks, [], []⟩
abbrev s_head_row : Stmt := top 16
def d_head_row : He.DefD := ⟨("head_row", none), "head_row", "head_row", defArgs s_head_row, defBody s_head_row, defScope s_head_row, [], []⟩
abbrev s_step_row : Stmt := top 17
def d_step_row : He.DefD := ⟨("step_row", none), "step_row", "step_row", defArgs s_step_row, defBody s_step_row, defScope s_step_row, [], []⟩
abbrev s_compiled : Stmt := top 18
def d_compiled : He.DefD := ⟨("compiled", none), "compiled", "compiled", defArgs s_compiled, defBody s_compiled, defScope s_compiled, [], [("left_out", .adr (kwAt ("compiled", none) "left_out"))]⟩
abbrev s_Frame_init : Stmt := inClass (top 19) 0
def d_Frame_init : He.DefD := ⟨("Frame", some "__init__"), "__init__", "Frame.__init__", defArgs s_Frame_init, defBody s_Frame_init, defScope s_Frame_init, [], []⟩
abbrev s_Machine_init : Stmt := inClass (top 20) 0
def d_Machine_init : He.DefD := ⟨("Machine", some "__init__"), "__init__", "Machine.__init__", defArgs s_Machine_init, defBody s_Machine_init, defScope s_Machine_init, [], []⟩
abbrev s_Machine_laid : Stmt := inClass (top 20) 1
def d_Machine_laid : He.DefD := ⟨("Machine", some "laid"), "laid", "Machine.laid", defArgs s_Machine_laid, defBody s_Machine_laid, defScope s_Machine_laid, [], []⟩
abbrev s_Machine_cells : Stmt := inClass (top 20) 2
def d_Machine_cells : He.DefD := ⟨("Machine", some "cells"), "cells", "Machine.cells", defArgs s_Machine_cells, defBody s_Machine_cells, defScope s_Machine_cells, [], []⟩
abbrev s_Machine_fails : Stmt := inClass (top 20) 3
def d_Machine_fails : He.DefD := ⟨("Machine", some "fails"), "fails", "Machine.fails", defArgs s_Machine_fails, defBody s_Machine_fails, defScope s_Machine_fails, [], []⟩
abbrev s_Machine_step : Stmt := inClass (top 20) 4
def d_Machine_step : He.DefD := ⟨("Machine", some "step"), "step", "Machine.step", defArgs s_Machine_step, defBody s_Machine_step, defScope s_Machine_step, [], []⟩
abbrev s_on_set : Stmt := top 21
def d_on_set : He.DefD := ⟨("on_set", none), "on_set", "on_set", defArgs s_on_set, defBody s_on_set, defScope s_on_set, [], []⟩
abbrev s_on_sum : Stmt := top 22
def d_on_sum : He.DefD := ⟨("on_sum", none), "on_sum", "on_sum", defArgs s_on_sum, defBody s_on_sum, defScope s_on_sum, [], []⟩
abbrev s_on_over : Stmt := top 23
def d_on_over : He.DefD := ⟨("on_over", none), "on_over", "on_over", defArgs s_on_over, defBody s_on_over, defScope s_on_over, [], []⟩
abbrev s_on_mid : Stmt := top 24
def d_on_mid : He.DefD := ⟨("on_mid", none), "on_mid", "on_mid", defArgs s_on_mid, defBody s_on_mid, defScope s_on_mid, [], []⟩
abbrev s_on_row : Stmt := top 25
def d_on_row : He.DefD := ⟨("on_row", none), "on_row", "on_row", defArgs s_on_row, defBody s_on_row, defScope s_on_row, [], []⟩
abbrev s_cell_of : Stmt := top 26
def d_cell_of : He.DefD := ⟨("cell_of", none), "cell_of", "cell_of", defArgs s_cell_of, defBody s_cell_of, defScope s_cell_of, [], []⟩
abbrev s_on_get : Stmt := top 27
def d_on_get : He.DefD := ⟨("on_get", none), "on_get", "on_get", defArgs s_on_get, defBody s_on_get, defScope s_on_get, [], []⟩
abbrev s_on_put : Stmt := top 28
def d_on_put : He.DefD := ⟨("on_put", none), "on_put", "on_put", defArgs s_on_put, defBody s_on_put, defScope s_on_put, [], []⟩
abbrev s_on_length : Stmt := top 29
def d_on_length : He.DefD := ⟨("on_length", none), "on_length", "on_length", defArgs s_on_length, defBody s_on_length, defScope s_on_length, [], []⟩
abbrev s_on_ask : Stmt := top 30
def d_on_ask : He.DefD := ⟨("on_ask", none), "on_ask", "on_ask", defArgs s_on_ask, defBody s_on_ask, defScope s_on_ask, [], []⟩
abbrev s_on_tell : Stmt := top 31
def d_on_tell : He.DefD := ⟨("on_tell", none), "on_tell", "on_tell", defArgs s_on_tell, defBody s_on_tell, defScope s_on_tell, [], []⟩
abbrev s_on_check : Stmt := top 32
def d_on_check : He.DefD := ⟨("on_check", none), "on_check", "on_check", defArgs s_on_check, defBody s_on_check, defScope s_on_check, [], []⟩
abbrev s_on_if : Stmt := top 33
def d_on_if : He.DefD := ⟨("on_if", none), "on_if", "on_if", defArgs s_on_if, defBody s_on_if, defScope s_on_if, [], []⟩
abbrev s_on_go : Stmt := top 34
def d_on_go : He.DefD := ⟨("on_go", none), "on_go", "on_go", defArgs s_on_go, defBody s_on_go, defScope s_on_go, [], []⟩
abbrev s_on_call : Stmt := top 35
def d_on_call : He.DefD := ⟨("on_call", none), "on_call", "on_call", defArgs s_on_call, defBody s_on_call, defScope s_on_call, [], []⟩
abbrev s_on_back : Stmt := top 36
def d_on_back : He.DefD := ⟨("on_back", none), "on_back", "on_back", defArgs s_on_back, defBody s_on_back, defScope s_on_back, [], []⟩
abbrev s_run_rows : Stmt := top 38
def d_run_rows : He.DefD := ⟨("run_rows", none), "run_rows", "run_rows", defArgs s_run_rows, defBody s_run_rows, defScope s_run_rows, [.adr (He.dflAt ("run_rows", none) 0)], [("steps", .int (200))]⟩
abbrev s__law_tape : Stmt := top 40
def d__law_tape : He.DefD := ⟨("_law_tape", none), "_law_tape", "_law_tape", defArgs s__law_tape, defBody s__law_tape, defScope s__law_tape, [], []⟩
abbrev s__law_draw : Stmt := top 41
def d__law_draw : He.DefD := ⟨("_law_draw", none), "_law_draw", "_law_draw", defArgs s__law_draw, defBody s__law_draw, defScope s__law_draw, [], []⟩
abbrev s__law_pick : Stmt := top 42
def d__law_pick : He.DefD := ⟨("_law_pick", none), "_law_pick", "_law_pick", defArgs s__law_pick, defBody s__law_pick, defScope s__law_pick, [], []⟩
abbrev s__law_a_word : Stmt := top 43
def d__law_a_word : He.DefD := ⟨("_law_a_word", none), "_law_a_word", "_law_a_word", defArgs s__law_a_word, defBody s__law_a_word, defScope s__law_a_word, [], []⟩
abbrev s__law_head : Stmt := top 44
def d__law_head : He.DefD := ⟨("_law_head", none), "_law_head", "_law_head", defArgs s__law_head, defBody s__law_head, defScope s__law_head, [], []⟩
abbrev s__law_numbers : Stmt := top 45
def d__law_numbers : He.DefD := ⟨("_law_numbers", none), "_law_numbers", "_law_numbers", defArgs s__law_numbers, defBody s__law_numbers, defScope s__law_numbers, [], []⟩
abbrev s__law_a_side : Stmt := top 46
def d__law_a_side : He.DefD := ⟨("_law_a_side", none), "_law_a_side", "_law_a_side", defArgs s__law_a_side, defBody s__law_a_side, defScope s__law_a_side, [], []⟩
abbrev s__law_test : Stmt := top 47
def d__law_test : He.DefD := ⟨("_law_test", none), "_law_test", "_law_test", defArgs s__law_test, defBody s__law_test, defScope s__law_test, [], []⟩
abbrev s__law_kind : Stmt := top 48
def d__law_kind : He.DefD := ⟨("_law_kind", none), "_law_kind", "_law_kind", defArgs s__law_kind, defBody s__law_kind, defScope s__law_kind, [], []⟩
abbrev s__law_call : Stmt := top 49
def d__law_call : He.DefD := ⟨("_law_call", none), "_law_call", "_law_call", defArgs s__law_call, defBody s__law_call, defScope s__law_call, [], []⟩
abbrev s__law_row_act : Stmt := top 50
def d__law_row_act : He.DefD := ⟨("_law_row_act", none), "_law_row_act", "_law_row_act", defArgs s__law_row_act, defBody s__law_row_act, defScope s__law_row_act, [], []⟩
abbrev s__law_finger_act : Stmt := top 51
def d__law_finger_act : He.DefD := ⟨("_law_finger_act", none), "_law_finger_act", "_law_finger_act", defArgs s__law_finger_act, defBody s__law_finger_act, defScope s__law_finger_act, [], []⟩
abbrev s__law_act : Stmt := top 52
def d__law_act : He.DefD := ⟨("_law_act", none), "_law_act", "_law_act", defArgs s__law_act, defBody s__law_act, defScope s__law_act, [], []⟩
abbrev s__law_loop : Stmt := top 53
def d__law_loop : He.DefD := ⟨("_law_loop", none), "_law_loop", "_law_loop", defArgs s__law_loop, defBody s__law_loop, defScope s__law_loop, [], []⟩
abbrev s__law_steps : Stmt := top 54
def d__law_steps : He.DefD := ⟨("_law_steps", none), "_law_steps", "_law_steps", defArgs s__law_steps, defBody s__law_steps, defScope s__law_steps, [], []⟩
abbrev s__law_program : Stmt := top 55
def d__law_program : He.DefD := ⟨("_law_program", none), "_law_program", "_law_program", defArgs s__law_program, defBody s__law_program, defScope s__law_program, [], []⟩
abbrev s__law_handed : Stmt := top 56
def d__law_handed : He.DefD := ⟨("_law_handed", none), "_law_handed", "_law_handed", defArgs s__law_handed, defBody s__law_handed, defScope s__law_handed, [], []⟩
abbrev s__law_first : Stmt := top 57
def d__law_first : He.DefD := ⟨("_law_first", none), "_law_first", "_law_first", defArgs s__law_first, defBody s__law_first, defScope s__law_first, [], []⟩
abbrev s_law : Stmt := top 58
def d_law : He.DefD := ⟨("law", none), "law", "law", defArgs s_law, defBody s_law, defScope s_law, [], []⟩
def fn0 : List He.DefD := [d_act_names, d_names_of, d_numbers_of, d_def_at, d_places_of, d_act_at, d_side_of, d_is_so, d_looks, d_head_row, d_step_row, d_compiled, d_Frame_init, d_Machine_init, d_Machine_laid, d_Machine_cells, d_Machine_fails, d_Machine_step, d_on_set, d_on_sum, d_on_over, d_on_mid, d_on_row, d_cell_of, d_on_get, d_on_put, d_on_length, d_on_ask, d_on_tell, d_on_check, d_on_if, d_on_go, d_on_call, d_on_back, d_run_rows, d__law_tape, d__law_draw, d__law_pick]
def fn1 : List He.DefD := [d__law_a_word, d__law_head, d__law_numbers, d__law_a_side, d__law_test, d__law_kind, d__law_call, d__law_row_act, d__law_finger_act, d__law_act, d__law_loop, d__law_steps, d__law_program, d__law_handed, d__law_first, d_law]
def fn : List He.DefD := fn0 ++ fn1
def tk_PARTS : List Str := ["set", "add", "plus", "minus", "times", "over", "rest", "mid", "row", "get", "put", "length", "ask", "tell", "check", "if", "go", "call", "back"]
def tv_PARTS : List (Str × He.Dv) := [("set", .str "nk"), ("add", .str "nnk"), ("plus", .str "ppp"), ("minus", .str "ppp"), ("times", .str "ppp"), ("over", .str "ppp"), ("rest", .str "ppp"), ("mid", .str "nnn"), ("row", .str "an"), ("get", .str "pan"), ("put", .str "ann"), ("length", .str "na"), ("ask", .str "pkk"), ("tell", .str "n"), ("check", .str "sos"), ("if", .str "sosl"), ("go", .str "l"), ("call", .str "pfg"), ("back", .str "n")]
def tk_WHYS : List Str := ["add", "plus", "minus", "times", "over", "rest", "row", "get", "put", "check"]
def tv_WHYS : List (Str × He.Dv) := [("add", .str "great"), ("plus", .str "great"), ("minus", .str "great"), ("times", .str "great"), ("over", .str "nought"), ("rest", .str "nought"), ("row", .str "size"), ("get", .str "place"), ("put", .str "place"), ("check", .str "check")]
def tk_DOINGS : List Str := ["set", "add", "plus", "minus", "times", "over", "rest", "mid", "row", "get", "put", "length", "ask", "tell", "check", "if", "go", "call", "back"]
def tv_DOINGS : List (Str × He.Dv) := [("set", .glo "on_set"), ("add", .glo "on_sum"), ("plus", .glo "on_sum"), ("minus", .glo "on_sum"), ("times", .glo "on_sum"), ("over", .glo "on_over"), ("rest", .glo "on_over"), ("mid", .glo "on_mid"), ("row", .glo "on_row"), ("get", .glo "on_get"), ("put", .glo "on_put"), ("length", .glo "on_length"), ("ask", .glo "on_ask"), ("tell", .glo "on_tell"), ("check", .glo "on_check"), ("if", .glo "on_if"), ("go", .glo "on_go"), ("call", .glo "on_call"), ("back", .glo "on_back")]
def noneB (K : PySem.W.Frag) (a : Addr) (ks : List Str) : Bool := ks.all fun k => match PySem.W.nsIn K a k with
  | some none => true
  | _ => false
def tn_WHYS : List Str := ["set", "mid", "length", "ask", "tell", "if", "go", "call", "back"]
def emptB (K : PySem.W.Frag) (a : Addr) : Bool := match K.lookup a with
  | some ⟨.type c, _, .seq its _, _⟩ => decide (c = "tuple") && its.isEmpty
  | _ => false
def fa0 : List He.Fa := [.glo "act_names", .glo "names_of", .glo "numbers_of", .glo "def_at", .glo "places_of", .glo "act_at", .glo "side_of", .glo "is_so", .glo "looks", .glo "head_row", .glo "step_row", .glo "compiled", .glo "on_set", .glo "on_sum", .glo "on_over", .glo "on_mid", .glo "on_row", .glo "cell_of", .glo "on_get", .glo "on_put", .glo "on_length", .glo "on_ask", .glo "on_tell", .glo "on_check", .glo "on_if", .glo "on_go", .glo "on_call", .glo "on_back", .glo "run_rows", .glo "_law_tape", .glo "_law_draw", .glo "_law_pick", .glo "_law_a_word", .glo "_law_head", .glo "_law_numbers", .glo "_law_a_side", .glo "_law_test", .glo "_law_kind"]
def fa1 : List He.Fa := [.glo "_law_call", .glo "_law_row_act", .glo "_law_finger_act", .glo "_law_act", .glo "_law_loop", .glo "_law_steps", .glo "_law_program", .glo "_law_handed", .glo "_law_first", .glo "law", .free "dict", .free "enumerate", .free "int", .free "isinstance", .free "len", .free "list", .free "max", .free "min", .free "range", .free "repr", .free "sorted", .free "str", .free "tuple", .free "zip", .glo "Frame", .cls "Frame", .mkr "Frame", .noat "Frame" "ahead", .noat "Frame" "at", .noat "Frame" "lain", .noat "Frame" "numbers", .glo "Machine", .cls "Machine", .mkr "Machine", .noat "Machine" "code", .noat "Machine" "end", .noat "Machine" "frames", .noat "Machine" "left"]
def fa2 : List He.Fa := [.noat "Machine" "looks", .noat "Machine" "many", .noat "Machine" "memory", .noat "Machine" "most", .noat "Machine" "told", .noat "Machine" "top", .noat "Machine" "wide", .meth "Machine" "laid", .meth "Machine" "cells", .meth "Machine" "fails", .meth "Machine" "step", .glo "PARTS", .int "MOST_OPEN" (20), .glo "WHYS", .glo "DOINGS"]
def fa : List He.Fa := fa0 ++ fa1 ++ fa2
def ts : List He.Tab := [((fun K => He.ga K "PARTS"), tk_PARTS), ((fun K => He.ga K "WHYS"), tk_WHYS), ((fun K => He.ga K "DOINGS"), tk_DOINGS)]
def ex (K : PySem.W.Frag) : Bool := He.valsB K (He.ga K "PARTS") tv_PARTS && He.valsB K (He.ga K "WHYS") tv_WHYS && He.valsB K (He.ga K "DOINGS") tv_DOINGS && noneB K (He.ga K "WHYS") tn_WHYS && emptB K (He.dflAt ("run_rows", none) 0 K)
abbrev R : PySem.W.OpenRow := PySem.W.OpenLaw.row PySem.Challenge.rw_withinall_k72_machines_by_turns
abbrev hk : PySem.W.Hook := He.hookX 4 fa fn ts [] ex
def ob (s : PySem.W.SharedT) : He.AlX := He.obsX 4 fa fn ts [] ex (HandSHeadRun.getT s)
theorem ob_eq (s : PySem.W.SharedT) : ob s = hk.obs s.abs := He.obsX_eq (HandSHeadRun.getT_eq s)
def names0 : List PySem.Str := ["PARTS", "act_names", "names_of", "numbers_of", "def_at", "places_of", "act_at", "MOST_OPEN", "side_of", "is_so", "WHYS", "looks", "head_row", "step_row", "compiled"]
def names1 : List PySem.Str := ["Frame", "Machine", "on_set", "on_sum", "on_over", "on_mid", "on_row", "cell_of", "on_get", "on_put", "on_length", "on_ask", "on_tell", "on_check", "on_if"]
def names2 : List PySem.Str := ["on_go", "on_call", "on_back", "DOINGS", "run_rows", "_law_tape", "_law_draw", "_law_pick", "_law_a_word", "_law_head", "_law_numbers", "_law_a_side", "_law_test", "_law_kind", "_law_call"]
def names3 : List PySem.Str := ["_law_row_act", "_law_finger_act", "_law_act", "_law_loop", "_law_steps", "_law_program", "_law_handed", "_law_first"]
def names : List PySem.Str := names0 ++ names1 ++ names2 ++ names3
open PySem.W PySem.Calls in
theorem run0 (w : World) (os : OsState) : (fun w => (HandSHeadRun.endF (HandSHeadRun.stepQ (HandSHeadRun.denQ HandSHeadRun.tabQ) R.prog w) 4000 R.prog w os).map (fun s => (HandSHeadRun.looksF R.prog (boot_heap w.params) s.abs, HandSHeadRun.seenQ (PySem.W.view R.prog [58]) names (importedModules R.prog.main.body) (fun s => PySem.W.xlAt (PySem.W.view R.prog [58]) [] s && PySem.W.recOk R.toRowW.records s) s.abs, ob s)) = some (true, PySem.W.openGood (PySem.W.view R.prog [58]) names, hk.val w)) (w.withFollow "special-get-raises" false) := by
  kernel_rfl
open PySem.W PySem.Calls in
theorem run1 (w : World) (os : OsState) : (fun w => (HandSHeadRun.endF (HandSHeadRun.stepQ (HandSHeadRun.denQ HandSHeadRun.tabQ) R.prog w) 4000 R.prog w os).map (fun s => (HandSHeadRun.looksF R.prog (boot_heap w.params) s.abs, HandSHeadRun.seenQ (PySem.W.view R.prog [58]) names (importedModules R.prog.main.body) (fun s => PySem.W.xlAt (PySem.W.view R.prog [58]) [] s && PySem.W.recOk R.toRowW.records s) s.abs, ob s)) = some (true, PySem.W.openGood (PySem.W.view R.prog [58]) names, hk.val w)) (w.withFollow "special-get-raises" true) := by
  kernel_rfl
open PySem.W PySem.Calls in
theorem run (w : World) : HandSHeadRun.RunEq R (PySem.W.view R.prog [58]) hk ob 4000 names w := by
  intro os
  exact byRow2 "special-get-raises" (P := fun w => (HandSHeadRun.endF (HandSHeadRun.stepQ (HandSHeadRun.denQ HandSHeadRun.tabQ) R.prog w) 4000 R.prog w os).map (fun s => (HandSHeadRun.looksF R.prog (boot_heap w.params) s.abs, HandSHeadRun.seenQ (PySem.W.view R.prog [58]) names (importedModules R.prog.main.body) (fun s => PySem.W.xlAt (PySem.W.view R.prog [58]) [] s && PySem.W.recOk R.toRowW.records s) s.abs, ob s)) = some (true, PySem.W.openGood (PySem.W.view R.prog [58]) names, hk.val w)) (fun w => run0 w os) (fun w => run1 w os) w
end H72


set_option Elab.async false
set_option linter.all false
set_option maxRecDepth 100000
set_option maxHeartbeats 4000000
/-! derivations -/
namespace R72
open PySem PySem.Spec PyProof.Rows L2 H72
theorem noneB_ok {K : PySem.W.Frag} {a : Addr} {ks : List Str} (h : H72.noneB K a ks = true) {k : Str} (hk : k ∈ ks) : PySem.W.nsIn K a k = some none := by
  have h2 := List.all_eq_true.mp h k hk
  cases e : PySem.W.nsIn K a k with
  | none => rw [e] at h2; cases h2
  | some r => cases r with
    | none => rfl
    | some u => rw [e] at h2; cases h2
theorem emptB_ok {K : PySem.W.Frag} {a : Addr} (h : H72.emptB K a = true) (H : Hp) : SqT K H a [] := by
  unfold H72.emptB at h
  cases e : K.lookup a with
  | none => rw [e] at h; cases h
  | some o =>
    obtain ⟨c, d, dt, sl⟩ := o
    rw [e] at h
    cases c <;> cases dt <;> (try cases h)
    rename_i c its n
    obtain ⟨h1, h2⟩ := He.ba (show (decide (c = "tuple") && its.isEmpty) = true from h)
    have h1 : c = "tuple" := of_decide_eq_true h1
    have h2 : its = #[] := Array.isEmpty_iff.mp h2
    subst h1 h2
    exact .inr ⟨_, #[], n, e, rfl, rfl, Nat.zero_le _, .nil⟩
structure Facts (K : PySem.W.Frag) (mg : Str → Option Value) (w : World) : Prop where
  g_act_names : mg "act_names" = some (.ref (He.ga K "act_names"))
  d_act_names : ∃ fd, FunD K "act_names" "act_names" (defArgs s_act_names) (defBody s_act_names) (defScope s_act_names) [] [] (He.ga K "act_names") fd
  g_names_of : mg "names_of" = some (.ref (He.ga K "names_of"))
  d_names_of : ∃ fd, FunD K "names_of" "names_of" (defArgs s_names_of) (defBody s_names_of) (defScope s_names_of) [] [] (He.ga K "names_of") fd
  g_numbers_of : mg "numbers_of" = some (.ref (He.ga K "numbers_of"))
  d_numbers_of : ∃ fd, FunD K "numbers_of" "numbers_of" (defArgs s_numbers_of) (defBody s_numbers_of) (defScope s_numbers_of) [] [] (He.ga K "numbers_of") fd
  g_def_at : mg "def_at" = some (.ref (He.ga K "def_at"))
  d_def_at : ∃ fd, FunD K "def_at" "def_at" (defArgs s_def_at) (defBody s_def_at) (defScope s_def_at) [] [] (He.ga K "def_at") fd
  g_places_of : mg "places_of" = some (.ref (He.ga K "places_of"))
  d_places_of : ∃ fd, FunD K "places_of" "places_of" (defArgs s_places_of) (defBody s_places_of) (defScope s_places_of) [] [] (He.ga K "places_of") fd
  g_act_at : mg "act_at" = some (.ref (He.ga K "act_at"))
  d_act_at : ∃ fd, FunD K "act_at" "act_at" (defArgs s_act_at) (defBody s_act_at) (defScope s_act_at) [] [] (He.ga K "act_at") fd
  g_side_of : mg "side_of" = some (.ref (He.ga K "side_of"))
  d_side_of : ∃ fd, FunD K "side_of" "side_of" (defArgs s_side_of) (defBody s_side_of) (defScope s_side_of) [] [] (He.ga K "side_of") fd
  g_is_so : mg "is_so" = some (.ref (He.ga K "is_so"))
  d_is_so : ∃ fd, FunD K "is_so" "is_so" (defArgs s_is_so) (defBody s_is_so) (defScope s_is_so) [] [] (He.ga K "is_so") fd
  g_looks : mg "looks" = some (.ref (He.ga K "looks"))
  d_looks : ∃ fd, FunD K "looks" "looks" (defArgs s_looks) (defBody s_looks) (defScope s_looks) [] [] (He.ga K "looks") fd
  g_head_row : mg "head_row" = some (.ref (He.ga K "head_row"))
  d_head_row : ∃ fd, FunD K "head_row" "head_row" (defArgs s_head_row) (defBody s_head_row) (defScope s_head_row) [] [] (He.ga K "head_row") fd
  g_step_row : mg "step_row" = some (.ref (He.ga K "step_row"))
  d_step_row : ∃ fd, FunD K "step_row" "step_row" (defArgs s_step_row) (defBody s_step_row) (defScope s_step_row) [] [] (He.ga K "step_row") fd
  g_compiled : mg "compiled" = some (.ref (He.ga K "compiled"))
  d_compiled : ∃ fd, FunD K "compiled" "compiled" (defArgs s_compiled) (defBody s_compiled) (defScope s_compiled) [] (H72.d_compiled.kws K) (He.ga K "compiled") fd
  d_Frame_init : ∃ fd, FunD K "__init__" "Frame.__init__" (defArgs s_Frame_init) (defBody s_Frame_init) (defScope s_Frame_init) [] [] (He.ma K (He.ga K "Frame") "__init__") fd
  d_Machine_init : ∃ fd, FunD K "__init__" "Machine.__init__" (defArgs s_Machine_init) (defBody s_Machine_init) (defScope s_Machine_init) [] [] (He.ma K (He.ga K "Machine") "__init__") fd
  d_Machine_laid : ∃ fd, FunD K "laid" "Machine.laid" (defArgs s_Machine_laid) (defBody s_Machine_laid) (defScope s_Machine_laid) [] [] (He.ma K (He.ga K "Machine") "laid") fd
  d_Machine_cells : ∃ fd, FunD K "cells" "Machine.cells" (defArgs s_Machine_cells) (defBody s_Machine_cells) (defScope s_Machine_cells) [] [] (He.ma K (He.ga K "Machine") "cells") fd
  d_Machine_fails : ∃ fd, FunD K "fails" "Machine.fails" (defArgs s_Machine_fails) (defBody s_Machine_fails) (defScope s_Machine_fails) [] [] (He.ma K (He.ga K "Machine") "fails") fd
  d_Machine_step : ∃ fd, FunD K "step" "Machine.step" (defArgs s_Machine_step) (defBody s_Machine_step) (defScope s_Machine_step) [] [] (He.ma K (He.ga K "Machine") "step") fd
  g_on_set : mg "on_set" = some (.ref (He.ga K "on_set"))
  d_on_set : ∃ fd, FunD K "on_set" "on_set" (defArgs s_on_set) (defBody s_on_set) (defScope s_on_set) [] [] (He.ga K "on_set") fd
  g_on_sum : mg "on_sum" = some (.ref (He.ga K "on_sum"))
  d_on_sum : ∃ fd, FunD K "on_sum" "on_sum" (defArgs s_on_sum) (defBody s_on_sum) (defScope s_on_sum) [] [] (He.ga K "on_sum") fd
  g_on_over : mg "on_over" = some (.ref (He.ga K "on_over"))
  d_on_over : ∃ fd, FunD K "on_over" "on_over" (defArgs s_on_over) (defBody s_on_over) (defScope s_on_over) [] [] (He.ga K "on_over") fd
  g_on_mid : mg "on_mid" = some (.ref (He.ga K "on_mid"))
  d_on_mid : ∃ fd, FunD K "on_mid" "on_mid" (defArgs s_on_mid) (defBody s_on_mid) (defScope s_on_mid) [] [] (He.ga K "on_mid") fd
  g_on_row : mg "on_row" = some (.ref (He.ga K "on_row"))
  d_on_row : ∃ fd, FunD K "on_row" "on_row" (defArgs s_on_row) (defBody s_on_row) (defScope s_on_row) [] [] (He.ga K "on_row") fd
  g_cell_of : mg "cell_of" = some (.ref (He.ga K "cell_of"))
  d_cell_of : ∃ fd, FunD K "cell_of" "cell_of" (defArgs s_cell_of) (defBody s_cell_of) (defScope s_cell_of) [] [] (He.ga K "cell_of") fd
  g_on_get : mg "on_get" = some (.ref (He.ga K "on_get"))
  d_on_get : ∃ fd, FunD K "on_get" "on_get" (defArgs s_on_get) (defBody s_on_get) (defScope s_on_get) [] [] (He.ga K "on_get") fd
  g_on_put : mg "on_put" = some (.ref (He.ga K "on_put"))
  d_on_put : ∃ fd, FunD K "on_put" "on_put" (defArgs s_on_put) (defBody s_on_put) (defScope s_on_put) [] [] (He.ga K "on_put") fd
  g_on_length : mg "on_length" = some (.ref (He.ga K "on_length"))
  d_on_length : ∃ fd, FunD K "on_length" "on_length" (defArgs s_on_length) (defBody s_on_length) (defScope s_on_length) [] [] (He.ga K "on_length") fd
  g_on_ask : mg "on_ask" = some (.ref (He.ga K "on_ask"))
  d_on_ask : ∃ fd, FunD K "on_ask" "on_ask" (defArgs s_on_ask) (defBody s_on_ask) (defScope s_on_ask) [] [] (He.ga K "on_ask") fd
  g_on_tell : mg "on_tell" = some (.ref (He.ga K "on_tell"))
  d_on_tell : ∃ fd, FunD K "on_tell" "on_tell" (defArgs s_on_tell) (defBody s_on_tell) (defScope s_on_tell) [] [] (He.ga K "on_tell") fd
  g_on_check : mg "on_check" = some (.ref (He.ga K "on_check"))
  d_on_check : ∃ fd, FunD K "on_check" "on_check" (defArgs s_on_check) (defBody s_on_check) (defScope s_on_check) [] [] (He.ga K "on_check") fd
  g_on_if : mg "on_if" = some (.ref (He.ga K "on_if"))
  d_on_if : ∃ fd, FunD K "on_if" "on_if" (defArgs s_on_if) (defBody s_on_if) (defScope s_on_if) [] [] (He.ga K "on_if") fd
  g_on_go : mg "on_go" = some (.ref (He.ga K "on_go"))
  d_on_go : ∃ fd, FunD K "on_go" "on_go" (defArgs s_on_go) (defBody s_on_go) (defScope s_on_go) [] [] (He.ga K "on_go") fd
  g_on_call : mg "on_call" = some (.ref (He.ga K "on_call"))
  d_on_call : ∃ fd, FunD K "on_call" "on_call" (defArgs s_on_call) (defBody s_on_call) (defScope s_on_call) [] [] (He.ga K "on_call") fd
  g_on_back : mg "on_back" = some (.ref (He.ga K "on_back"))
  d_on_back : ∃ fd, FunD K "on_back" "on_back" (defArgs s_on_back) (defBody s_on_back) (defScope s_on_back) [] [] (He.ga K "on_back") fd
  g_run_rows : mg "run_rows" = some (.ref (He.ga K "run_rows"))
  d_run_rows : ∃ fd, FunD K "run_rows" "run_rows" (defArgs s_run_rows) (defBody s_run_rows) (defScope s_run_rows) (H72.d_run_rows.dvs K) (H72.d_run_rows.kws K) (He.ga K "run_rows") fd
  g__law_tape : mg "_law_tape" = some (.ref (He.ga K "_law_tape"))
  d__law_tape : ∃ fd, FunD K "_law_tape" "_law_tape" (defArgs s__law_tape) (defBody s__law_tape) (defScope s__law_tape) [] [] (He.ga K "_law_tape") fd
  g__law_draw : mg "_law_draw" = some (.ref (He.ga K "_law_draw"))
  d__law_draw : ∃ fd, FunD K "_law_draw" "_law_draw" (defArgs s__law_draw) (defBody s__law_draw) (defScope s__law_draw) [] [] (He.ga K "_law_draw") fd
  g__law_pick : mg "_law_pick" = some (.ref (He.ga K "_law_pick"))
  d__law_pick : ∃ fd, FunD K "_law_pick" "_law_pick" (defArgs s__law_pick) (defBody s__law_pick) (defScope s__law_pick) [] [] (He.ga K "_law_pick") fd
  g__law_a_word : mg "_law_a_word" = some (.ref (He.ga K "_law_a_word"))
  d__law_a_word : ∃ fd, FunD K "_law_a_word" "_law_a_word" (defArgs s__law_a_word) (defBody s__law_a_word) (defScope s__law_a_word) [] [] (He.ga K "_law_a_word") fd
  g__law_head : mg "_law_head" = some (.ref (He.ga K "_law_head"))
  d__law_head : ∃ fd, FunD K "_law_head" "_law_head" (defArgs s__law_head) (defBody s__law_head) (defScope s__law_head) [] [] (He.ga K "_law_head") fd
  g__law_numbers : mg "_law_numbers" = some (.ref (He.ga K "_law_numbers"))
  d__law_numbers : ∃ fd, FunD K "_law_numbers" "_law_numbers" (defArgs s__law_numbers) (defBody s__law_numbers) (defScope s__law_numbers) [] [] (He.ga K "_law_numbers") fd
  g__law_a_side : mg "_law_a_side" = some (.ref (He.ga K "_law_a_side"))
  d__law_a_side : ∃ fd, FunD K "_law_a_side" "_law_a_side" (defArgs s__law_a_side) (defBody s__law_a_side) (defScope s__law_a_side) [] [] (He.ga K "_law_a_side") fd
  g__law_test : mg "_law_test" = some (.ref (He.ga K "_law_test"))
  d__law_test : ∃ fd, FunD K "_law_test" "_law_test" (defArgs s__law_test) (defBody s__law_test) (defScope s__law_test) [] [] (He.ga K "_law_test") fd
  g__law_kind : mg "_law_kind" = some (.ref (He.ga K "_law_kind"))
  d__law_kind : ∃ fd, FunD K "_law_kind" "_law_kind" (defArgs s__law_kind) (defBody s__law_kind) (defScope s__law_kind) [] [] (He.ga K "_law_kind") fd
  g__law_call : mg "_law_call" = some (.ref (He.ga K "_law_call"))
  d__law_call : ∃ fd, FunD K "_law_call" "_law_call" (defArgs s__law_call) (defBody s__law_call) (defScope s__law_call) [] [] (He.ga K "_law_call") fd
  g__law_row_act : mg "_law_row_act" = some (.ref (He.ga K "_law_row_act"))
  d__law_row_act : ∃ fd, FunD K "_law_row_act" "_law_row_act" (defArgs s__law_row_act) (defBody s__law_row_act) (defScope s__law_row_act) [] [] (He.ga K "_law_row_act") fd
  g__law_finger_act : mg "_law_finger_act" = some (.ref (He.ga K "_law_finger_act"))
  d__law_finger_act : ∃ fd, FunD K "_law_finger_act" "_law_finger_act" (defArgs s__law_finger_act) (defBody s__law_finger_act) (defScope s__law_finger_act) [] [] (He.ga K "_law_finger_act") fd
  g__law_act : mg "_law_act" = some (.ref (He.ga K "_law_act"))
  d__law_act : ∃ fd, FunD K "_law_act" "_law_act" (defArgs s__law_act) (defBody s__law_act) (defScope s__law_act) [] [] (He.ga K "_law_act") fd
  g__law_loop : mg "_law_loop" = some (.ref (He.ga K "_law_loop"))
  d__law_loop : ∃ fd, FunD K "_law_loop" "_law_loop" (defArgs s__law_loop) (defBody s__law_loop) (defScope s__law_loop) [] [] (He.ga K "_law_loop") fd
  g__law_steps : mg "_law_steps" = some (.ref (He.ga K "_law_steps"))
  d__law_steps : ∃ fd, FunD K "_law_steps" "_law_steps" (defArgs s__law_steps) (defBody s__law_steps) (defScope s__law_steps) [] [] (He.ga K "_law_steps") fd
  g__law_program : mg "_law_program" = some (.ref (He.ga K "_law_program"))
  d__law_program : ∃ fd, FunD K "_law_program" "_law_program" (defArgs s__law_program) (defBody s__law_program) (defScope s__law_program) [] [] (He.ga K "_law_program") fd
  g__law_handed : mg "_law_handed" = some (.ref (He.ga K "_law_handed"))
  d__law_handed : ∃ fd, FunD K "_law_handed" "_law_handed" (defArgs s__law_handed) (defBody s__law_handed) (defScope s__law_handed) [] [] (He.ga K "_law_handed") fd
  g__law_first : mg "_law_first" = some (.ref (He.ga K "_law_first"))
  d__law_first : ∃ fd, FunD K "_law_first" "_law_first" (defArgs s__law_first) (defBody s__law_first) (defScope s__law_first) [] [] (He.ga K "_law_first") fd
  g_law : mg "law" = some (.ref (He.ga K "law"))
  d_law : ∃ fd, FunD K "law" "law" (defArgs s_law) (defBody s_law) (defScope s_law) [] [] (He.ga K "law") fd
  n_dict : mg "dict" = none
  n_enumerate : mg "enumerate" = none
  n_int : mg "int" = none
  n_isinstance : mg "isinstance" = none
  n_len : mg "len" = none
  n_list : mg "list" = none
  n_max : mg "max" = none
  n_min : mg "min" = none
  n_range : mg "range" = none
  n_repr : mg "repr" = none
  n_sorted : mg "sorted" = none
  n_str : mg "str" = none
  n_tuple : mg "tuple" = none
  n_zip : mg "zip" = none
  g_Frame : mg "Frame" = some (.ref (He.ga K "Frame"))
  cl_Frame : Cls K (He.ga K "Frame")
  mk_Frame : Mk K (He.ga K "Frame") (He.ma K (He.ga K "Frame") "__init__")
  na_Frame_ahead : NoAttr K (He.ga K "Frame") "ahead"
  na_Frame_at : NoAttr K (He.ga K "Frame") "at"
  na_Frame_lain : NoAttr K (He.ga K "Frame") "lain"
  na_Frame_numbers : NoAttr K (He.ga K "Frame") "numbers"
  g_Machine : mg "Machine" = some (.ref (He.ga K "Machine"))
  cl_Machine : Cls K (He.ga K "Machine")
  mk_Machine : Mk K (He.ga K "Machine") (He.ma K (He.ga K "Machine") "__init__")
  na_Machine_code : NoAttr K (He.ga K "Machine") "code"
  na_Machine_end : NoAttr K (He.ga K "Machine") "end"
  na_Machine_frames : NoAttr K (He.ga K "Machine") "frames"
  na_Machine_left : NoAttr K (He.ga K "Machine") "left"
  na_Machine_looks : NoAttr K (He.ga K "Machine") "looks"
  na_Machine_many : NoAttr K (He.ga K "Machine") "many"
  na_Machine_memory : NoAttr K (He.ga K "Machine") "memory"
  na_Machine_most : NoAttr K (He.ga K "Machine") "most"
  na_Machine_told : NoAttr K (He.ga K "Machine") "told"
  na_Machine_top : NoAttr K (He.ga K "Machine") "top"
  na_Machine_wide : NoAttr K (He.ga K "Machine") "wide"
  mt_Machine_laid : Meth K (He.ga K "Machine") "laid" (He.ma K (He.ga K "Machine") "laid")
  mt_Machine_cells : Meth K (He.ga K "Machine") "cells" (He.ma K (He.ga K "Machine") "cells")
  mt_Machine_fails : Meth K (He.ga K "Machine") "fails" (He.ma K (He.ga K "Machine") "fails")
  mt_Machine_step : Meth K (He.ga K "Machine") "step" (He.ma K (He.ga K "Machine") "step")
  g_PARTS : mg "PARTS" = some (.ref (He.ga K "PARTS"))
  kd_PARTS : ∃ es n, KDict K w (He.ga K "PARTS") es n
  v_PARTS : ∀ q ∈ H72.tv_PARTS, ∃ u, PySem.W.nsIn K (He.ga K "PARTS") q.1 = some (some u) ∧ RelV (q.2.v K) u
  c_MOST_OPEN : ∃ u, mg "MOST_OPEN" = some u ∧ RelV (.int (20)) u
  g_WHYS : mg "WHYS" = some (.ref (He.ga K "WHYS"))
  kd_WHYS : ∃ es n, KDict K w (He.ga K "WHYS") es n
  v_WHYS : ∀ q ∈ H72.tv_WHYS, ∃ u, PySem.W.nsIn K (He.ga K "WHYS") q.1 = some (some u) ∧ RelV (q.2.v K) u
  g_DOINGS : mg "DOINGS" = some (.ref (He.ga K "DOINGS"))
  kd_DOINGS : ∃ es n, KDict K w (He.ga K "DOINGS") es n
  v_DOINGS : ∀ q ∈ H72.tv_DOINGS, ∃ u, PySem.W.nsIn K (He.ga K "DOINGS") q.1 = some (some u) ∧ RelV (q.2.v K) u
  e_run_rows_0 : ∀ H : Hp, SqT K H (He.dflAt ("run_rows", none) 0 K) []
  a_WHYS : ∀ k ∈ H72.tn_WHYS, PySem.W.nsIn K (He.ga K "WHYS") k = some none
theorem facts_of {K : PySem.W.Frag} {mg : Str → Option Value} {w : World} {h h0 : Heap} (X : K.In h) (G : h.Ns mainGlobals mg) (c : He.SaysX H72.fa H72.fn H72.ts [] H72.ex w h0 K) : Facts K mg w := by
  have m := c.more
  obtain ⟨m, he_run_rows_0⟩ := He.ba m
  obtain ⟨m, hn_WHYS⟩ := He.ba m
  obtain ⟨m, h2⟩ := He.ba m
  obtain ⟨m, h1⟩ := He.ba m
  have h0 := m
  exact ⟨He.glo_ok X G (c.t.d.fact 0 (f := .glo "act_names") rfl),
    c.t.d.def_ 0 (d := H72.d_act_names) rfl,
    He.glo_ok X G (c.t.d.fact 1 (f := .glo "names_of") rfl),
    c.t.d.def_ 1 (d := H72.d_names_of) rfl,
    He.glo_ok X G (c.t.d.fact 2 (f := .glo "numbers_of") rfl),
    c.t.d.def_ 2 (d := H72.d_numbers_of) rfl,
    He.glo_ok X G (c.t.d.fact 3 (f := .glo "def_at") rfl),
    c.t.d.def_ 3 (d := H72.d_def_at) rfl,
    He.glo_ok X G (c.t.d.fact 4 (f := .glo "places_of") rfl),
    c.t.d.def_ 4 (d := H72.d_places_of) rfl,
    He.glo_ok X G (c.t.d.fact 5 (f := .glo "act_at") rfl),
    c.t.d.def_ 5 (d := H72.d_act_at) rfl,
    He.glo_ok X G (c.t.d.fact 6 (f := .glo "side_of") rfl),
    c.t.d.def_ 6 (d := H72.d_side_of) rfl,
    He.glo_ok X G (c.t.d.fact 7 (f := .glo "is_so") rfl),
    c.t.d.def_ 7 (d := H72.d_is_so) rfl,
    He.glo_ok X G (c.t.d.fact 8 (f := .glo "looks") rfl),
    c.t.d.def_ 8 (d := H72.d_looks) rfl,
    He.glo_ok X G (c.t.d.fact 9 (f := .glo "head_row") rfl),
    c.t.d.def_ 9 (d := H72.d_head_row) rfl,
    He.glo_ok X G (c.t.d.fact 10 (f := .glo "step_row") rfl),
    c.t.d.def_ 10 (d := H72.d_step_row) rfl,
    He.glo_ok X G (c.t.d.fact 11 (f := .glo "compiled") rfl),
    c.t.d.def_ 11 (d := H72.d_compiled) rfl,
    c.t.d.def_ 12 (d := H72.d_Frame_init) rfl,
    c.t.d.def_ 13 (d := H72.d_Machine_init) rfl,
    c.t.d.def_ 14 (d := H72.d_Machine_laid) rfl,
    c.t.d.def_ 15 (d := H72.d_Machine_cells) rfl,
    c.t.d.def_ 16 (d := H72.d_Machine_fails) rfl,
    c.t.d.def_ 17 (d := H72.d_Machine_step) rfl,
    He.glo_ok X G (c.t.d.fact 12 (f := .glo "on_set") rfl),
    c.t.d.def_ 18 (d := H72.d_on_set) rfl,
    He.glo_ok X G (c.t.d.fact 13 (f := .glo "on_sum") rfl),
    c.t.d.def_ 19 (d := H72.d_on_sum) rfl,
    He.glo_ok X G (c.t.d.fact 14 (f := .glo "on_over") rfl),
    c.t.d.def_ 20 (d := H72.d_on_over) rfl,
    He.glo_ok X G (c.t.d.fact 15 (f := .glo "on_mid") rfl),
    c.t.d.def_ 21 (d := H72.d_on_mid) rfl,
    He.glo_ok X G (c.t.d.fact 16 (f := .glo "on_row") rfl),
    c.t.d.def_ 22 (d := H72.d_on_row) rfl,
    He.glo_ok X G (c.t.d.fact 17 (f := .glo "cell_of") rfl),
    c.t.d.def_ 23 (d := H72.d_cell_of) rfl,
    He.glo_ok X G (c.t.d.fact 18 (f := .glo "on_get") rfl),
    c.t.d.def_ 24 (d := H72.d_on_get) rfl,
    He.glo_ok X G (c.t.d.fact 19 (f := .glo "on_put") rfl),
    c.t.d.def_ 25 (d := H72.d_on_put) rfl,
    He.glo_ok X G (c.t.d.fact 20 (f := .glo "on_length") rfl),
    c.t.d.def_ 26 (d := H72.d_on_length) rfl,
    He.glo_ok X G (c.t.d.fact 21 (f := .glo "on_ask") rfl),
    c.t.d.def_ 27 (d := H72.d_on_ask) rfl,
    He.glo_ok X G (c.t.d.fact 22 (f := .glo "on_tell") rfl),
    c.t.d.def_ 28 (d := H72.d_on_tell) rfl,
    He.glo_ok X G (c.t.d.fact 23 (f := .glo "on_check") rfl),
    c.t.d.def_ 29 (d := H72.d_on_check) rfl,
    He.glo_ok X G (c.t.d.fact 24 (f := .glo "on_if") rfl),
    c.t.d.def_ 30 (d := H72.d_on_if) rfl,
    He.glo_ok X G (c.t.d.fact 25 (f := .glo "on_go") rfl),
    c.t.d.def_ 31 (d := H72.d_on_go) rfl,
    He.glo_ok X G (c.t.d.fact 26 (f := .glo "on_call") rfl),
    c.t.d.def_ 32 (d := H72.d_on_call) rfl,
    He.glo_ok X G (c.t.d.fact 27 (f := .glo "on_back") rfl),
    c.t.d.def_ 33 (d := H72.d_on_back) rfl,
    He.glo_ok X G (c.t.d.fact 28 (f := .glo "run_rows") rfl),
    c.t.d.def_ 34 (d := H72.d_run_rows) rfl,
    He.glo_ok X G (c.t.d.fact 29 (f := .glo "_law_tape") rfl),
    c.t.d.def_ 35 (d := H72.d__law_tape) rfl,
    He.glo_ok X G (c.t.d.fact 30 (f := .glo "_law_draw") rfl),
    c.t.d.def_ 36 (d := H72.d__law_draw) rfl,
    He.glo_ok X G (c.t.d.fact 31 (f := .glo "_law_pick") rfl),
    c.t.d.def_ 37 (d := H72.d__law_pick) rfl,
    He.glo_ok X G (c.t.d.fact 32 (f := .glo "_law_a_word") rfl),
    c.t.d.def_ 38 (d := H72.d__law_a_word) rfl,
    He.glo_ok X G (c.t.d.fact 33 (f := .glo "_law_head") rfl),
    c.t.d.def_ 39 (d := H72.d__law_head) rfl,
    He.glo_ok X G (c.t.d.fact 34 (f := .glo "_law_numbers") rfl),
    c.t.d.def_ 40 (d := H72.d__law_numbers) rfl,
    He.glo_ok X G (c.t.d.fact 35 (f := .glo "_law_a_side") rfl),
    c.t.d.def_ 41 (d := H72.d__law_a_side) rfl,
    He.glo_ok X G (c.t.d.fact 36 (f := .glo "_law_test") rfl),
    c.t.d.def_ 42 (d := H72.d__law_test) rfl,
    He.glo_ok X G (c.t.d.fact 37 (f := .glo "_law_kind") rfl),
    c.t.d.def_ 43 (d := H72.d__law_kind) rfl,
    He.glo_ok X G (c.t.d.fact 38 (f := .glo "_law_call") rfl),
    c.t.d.def_ 44 (d := H72.d__law_call) rfl,
    He.glo_ok X G (c.t.d.fact 39 (f := .glo "_law_row_act") rfl),
    c.t.d.def_ 45 (d := H72.d__law_row_act) rfl,
    He.glo_ok X G (c.t.d.fact 40 (f := .glo "_law_finger_act") rfl),
    c.t.d.def_ 46 (d := H72.d__law_finger_act) rfl,
    He.glo_ok X G (c.t.d.fact 41 (f := .glo "_law_act") rfl),
    c.t.d.def_ 47 (d := H72.d__law_act) rfl,
    He.glo_ok X G (c.t.d.fact 42 (f := .glo "_law_loop") rfl),
    c.t.d.def_ 48 (d := H72.d__law_loop) rfl,
    He.glo_ok X G (c.t.d.fact 43 (f := .glo "_law_steps") rfl),
    c.t.d.def_ 49 (d := H72.d__law_steps) rfl,
    He.glo_ok X G (c.t.d.fact 44 (f := .glo "_law_program") rfl),
    c.t.d.def_ 50 (d := H72.d__law_program) rfl,
    He.glo_ok X G (c.t.d.fact 45 (f := .glo "_law_handed") rfl),
    c.t.d.def_ 51 (d := H72.d__law_handed) rfl,
    He.glo_ok X G (c.t.d.fact 46 (f := .glo "_law_first") rfl),
    c.t.d.def_ 52 (d := H72.d__law_first) rfl,
    He.glo_ok X G (c.t.d.fact 47 (f := .glo "law") rfl),
    c.t.d.def_ 53 (d := H72.d_law) rfl,
    He.free_ok X G (c.t.d.fact 48 (f := .free "dict") rfl),
    He.free_ok X G (c.t.d.fact 49 (f := .free "enumerate") rfl),
    He.free_ok X G (c.t.d.fact 50 (f := .free "int") rfl),
    He.free_ok X G (c.t.d.fact 51 (f := .free "isinstance") rfl),
    He.free_ok X G (c.t.d.fact 52 (f := .free "len") rfl),
    He.free_ok X G (c.t.d.fact 53 (f := .free "list") rfl),
    He.free_ok X G (c.t.d.fact 54 (f := .free "max") rfl),
    He.free_ok X G (c.t.d.fact 55 (f := .free "min") rfl),
    He.free_ok X G (c.t.d.fact 56 (f := .free "range") rfl),
    He.free_ok X G (c.t.d.fact 57 (f := .free "repr") rfl),
    He.free_ok X G (c.t.d.fact 58 (f := .free "sorted") rfl),
    He.free_ok X G (c.t.d.fact 59 (f := .free "str") rfl),
    He.free_ok X G (c.t.d.fact 60 (f := .free "tuple") rfl),
    He.free_ok X G (c.t.d.fact 61 (f := .free "zip") rfl),
    He.glo_ok X G (c.t.d.fact 62 (f := .glo "Frame") rfl),
    He.cls_ok (c.t.d.fact 63 (f := .cls "Frame") rfl),
    He.mkr_ok (c.t.d.fact 64 (f := .mkr "Frame") rfl),
    He.noat_ok (c.t.d.fact 65 (f := .noat "Frame" "ahead") rfl),
    He.noat_ok (c.t.d.fact 66 (f := .noat "Frame" "at") rfl),
    He.noat_ok (c.t.d.fact 67 (f := .noat "Frame" "lain") rfl),
    He.noat_ok (c.t.d.fact 68 (f := .noat "Frame" "numbers") rfl),
    He.glo_ok X G (c.t.d.fact 69 (f := .glo "Machine") rfl),
    He.cls_ok (c.t.d.fact 70 (f := .cls "Machine") rfl),
    He.mkr_ok (c.t.d.fact 71 (f := .mkr "Machine") rfl),
    He.noat_ok (c.t.d.fact 72 (f := .noat "Machine" "code") rfl),
    He.noat_ok (c.t.d.fact 73 (f := .noat "Machine" "end") rfl),
    He.noat_ok (c.t.d.fact 74 (f := .noat "Machine" "frames") rfl),
    He.noat_ok (c.t.d.fact 75 (f := .noat "Machine" "left") rfl),
    He.noat_ok (c.t.d.fact 76 (f := .noat "Machine" "looks") rfl),
    He.noat_ok (c.t.d.fact 77 (f := .noat "Machine" "many") rfl),
    He.noat_ok (c.t.d.fact 78 (f := .noat "Machine" "memory") rfl),
    He.noat_ok (c.t.d.fact 79 (f := .noat "Machine" "most") rfl),
    He.noat_ok (c.t.d.fact 80 (f := .noat "Machine" "told") rfl),
    He.noat_ok (c.t.d.fact 81 (f := .noat "Machine" "top") rfl),
    He.noat_ok (c.t.d.fact 82 (f := .noat "Machine" "wide") rfl),
    He.meth_ok (c.t.d.fact 83 (f := .meth "Machine" "laid") rfl),
    He.meth_ok (c.t.d.fact 84 (f := .meth "Machine" "cells") rfl),
    He.meth_ok (c.t.d.fact 85 (f := .meth "Machine" "fails") rfl),
    He.meth_ok (c.t.d.fact 86 (f := .meth "Machine" "step") rfl),
    He.glo_ok X G (c.t.d.fact 87 (f := .glo "PARTS") rfl),
    c.t.tab 0 (t := ((fun K => He.ga K "PARTS"), H72.tk_PARTS)) rfl,
    fun q hq => He.valsB_ok h0 hq,
    (He.int_ok X G (c.t.d.fact 88 (f := .int "MOST_OPEN" (20)) rfl)).elim fun t e => ⟨_, e, t, rfl⟩,
    He.glo_ok X G (c.t.d.fact 89 (f := .glo "WHYS") rfl),
    c.t.tab 1 (t := ((fun K => He.ga K "WHYS"), H72.tk_WHYS)) rfl,
    fun q hq => He.valsB_ok h1 hq,
    He.glo_ok X G (c.t.d.fact 90 (f := .glo "DOINGS") rfl),
    c.t.tab 2 (t := ((fun K => He.ga K "DOINGS"), H72.tk_DOINGS)) rfl,
    fun q hq => He.valsB_ok h2 hq,
    fun H => emptB_ok he_run_rows_0 H,
    fun k hk => noneB_ok hn_WHYS hk⟩
section
variable {P : Program} {w : World} {K : PySem.W.Frag} {mg : Str → Option Value} {base : Heap}
theorem sc_act_names : FnScope N_act_names ["act"] (defScope s_act_names) := ⟨rfl, rfl, rfl, by decide +kernel, rfl, by decide +kernel, by decide +kernel⟩
theorem ok_act_names (F : Facts K mg w) : C8.Cal P w K mg base 1 "act_names" (sp_act_names K w) [] := by
  refine calX F.g_act_names F.d_act_names sc_act_names (bindsX F.d_act_names (fun _ _ _ _ _ _ us hl => match us, hl with | [_], _ => rfl)) (fun hr => ?_)
  exact (pss_cons (ps_set (i := 1) sc_act_names.nd rfl (Or.inl rfl) (pe_lst pa_nil)) (pss_cons (ps_for PassesOwn.never rfl (pi_zipX (by rfl) F.n_zip (pa_cons (pe_ix ix_kdict (pe_glob rfl F.g_PARTS rfl) (pe_ix ix_seq (pv 0) pe_int (fun _ _ => rfl)) (fun _ _ => rfl)) (pa_cons (pe_slice sl_X (pv 0) (po_some pe_int) po_none) pa_nil))) (pg_tup rfl (pgs_cons (pg_name (i := 2) sc_act_names.nd rfl (Or.inl rfl)) (pgs_cons (pg_name (i := 3) sc_act_names.nd rfl (Or.inl rfl)) pgs_nil))) (pss_one (ps_if (pt_cmpR (op_eqX hr) (pv 2) pe_str (nomark _)) (pss_one (ps_expr (pe_bm PySem.F.plainAttrs_list PySem.F.slot_list_extend PySem.F.type_list_extend mt_extendX (pv 1) (pa_cons (pv 3) pa_nil)))) (pss_one (ps_if (PW.pt (pw_and (pt_cmpR (op_inX hr) (pv 2) (pe_tup (pa_cons pe_str (pa_cons pe_str (pa_cons pe_str (pa_cons pe_str pa_nil))))) (by with_unfolding_all rfl)) (pw_and1 (pt_val (pe_callB call_isiX rfl F.n_isinstance (by decide +kernel) (pa_cons (pv 3) (pa_cons (pe_bltn rfl F.n_str (by decide +kernel) rfl) pa_nil))))))) (pss_one (ps_expr (pe_bm PySem.F.plainAttrs_list PySem.F.slot_list_append PySem.F.type_list_append mt_append (pv 1) (pa_cons (pv 3) pa_nil)))) pss_nil))))) (pss_one (ps_ret (pv 1)))))
theorem sc_names_of : FnScope N_names_of ["definition"] (defScope s_names_of) := ⟨rfl, rfl, rfl, by decide +kernel, rfl, by decide +kernel, by decide +kernel⟩
theorem ok_names_of (F : Facts K mg w) : C8.Cal P w K mg base 2 "names_of" (sp_names_of K w) [] := by
  refine calX F.g_names_of F.d_names_of sc_names_of (bindsX F.d_names_of (fun _ _ _ _ _ _ us hl => match us, hl with | [_], _ => rfl)) (fun hr => ?_)
  exact (pss_cons (ps_setDc (i := 1) (own := [("name", 4)]) rfl sc_names_of.nd rfl rfl (sw_trueD rfl rfl rfl (by decide +kernel)) (pi_seqX (pe_op op_addX (pe_op op_addX (pe_ix ix_seq (pv 0) pe_int (fun _ _ => rfl)) (pe_ix ix_seq (pv 0) pe_int (fun _ _ => rfl))) (pe_ix ix_seq (pv 0) pe_int (fun _ _ => rfl)))) (blkOk_by (own := [("name", 4)]) (N := N_names_of) (sc := defScope s_names_of) (by decide +kernel)) (fun _ _ _ _ _ => (pg_name (i := 4) sc_names_of.nd rfl (Or.inl rfl))) (fun _ _ _ _ _ => pts_nil) (fun _ _ _ _ _ => (pv 4)) (fun _ _ _ _ _ => pe_bl)) (pss_cons (ps_for PassesOwn.never rfl (pi_seqX (pe_ix ix_seq (pv 0) pe_int (fun _ _ => rfl))) (pg_tup rfl (pgs_cons (pg_name (i := 2) sc_names_of.nd rfl (Or.inl rfl)) (pgs_cons (pg_name (i := 3) sc_names_of.nd rfl (Or.inl rfl)) pgs_nil))) (pss_one (ps_expr (pe_bm PySem.F.plainAttrs_dict PySem.F.slot_dict_update PySem.F.type_dict_update (mt_updateX hr) (pv 1) (pa_cons (pe_dc (own := [("name", 4)]) rfl sc_names_of.nd (pi_seqX (C8.pe_c (ok_act_names F) hr (by decide) rfl (pa_cons (pv 3) pa_nil))) (blkOk_by (own := [("name", 4)]) (N := N_names_of) (sc := defScope s_names_of) (by decide +kernel)) (fun _ _ _ _ _ => (pg_name (i := 4) sc_names_of.nd rfl (Or.inl rfl))) (fun _ _ _ _ _ => pts_nil) (fun _ _ _ _ _ => (pv 4)) (fun _ _ _ _ _ => pe_bl)) pa_nil))))) (pss_one (ps_ret (pe_callB (cr_sortX hr rfl) rfl F.n_sorted (by decide +kernel) (pa_cons (pv 1) pa_nil))))))
theorem sc_numbers_of : FnScope N_numbers_of ["definition"] (defScope s_numbers_of) := ⟨rfl, rfl, rfl, by decide +kernel, rfl, by decide +kernel, by decide +kernel⟩
theorem ok_numbers_of (F : Facts K mg w) : C8.Cal P w K mg base 3 "numbers_of" (sp_numbers_of K w) [] := by
  refine calX F.g_numbers_of F.d_numbers_of sc_numbers_of (bindsX F.d_numbers_of (fun _ _ _ _ _ _ us hl => match us, hl with | [_], _ => rfl)) (fun hr => ?_)
  exact (pss_one (ps_ret (pe_lc (own := [("name", 1)]) rfl sc_numbers_of.nd (pi_seqX (C8.pe_c (ok_names_of F) hr (by decide) rfl (pa_cons (pv 0) pa_nil))) (blkOk_by (own := [("name", 1)]) (N := N_numbers_of) (sc := defScope s_numbers_of) (by decide +kernel)) (fun _ _ _ _ _ => (pg_name (i := 1) sc_numbers_of.nd rfl (Or.inl rfl))) (fun _ _ _ _ _ => (pts_one (pt_cmpR (op_notInX hr) (pv 1) (pe_ix ix_seq (pv 0) pe_int (fun _ _ => rfl)) (by with_unfolding_all rfl)))) (fun _ _ _ _ _ => (pv 1)))))
theorem sc_def_at : FnScope N_def_at ["program", "name"] (defScope s_def_at) := ⟨rfl, rfl, rfl, by decide +kernel, rfl, by decide +kernel, by decide +kernel⟩
theorem ok_def_at (F : Facts K mg w) : C8.Cal P w K mg base 1 "def_at" (sp_def_at K w) [] := by
  refine calX F.g_def_at F.d_def_at sc_def_at (bindsX F.d_def_at (fun _ _ _ _ _ _ us hl => match us, hl with | [_, _], _ => rfl)) (fun hr => ?_)
  exact (pss_one (ps_ret (pe_ix ix_seq (pe_lc (own := [("one", 2)]) rfl sc_def_at.nd (pi_seqX (pe_ix ix_seq (pv 0) pe_int (fun _ _ => rfl))) (blkOk_by (own := [("one", 2)]) (N := N_def_at) (sc := defScope s_def_at) (by decide +kernel)) (fun _ _ _ _ _ => (pg_name (i := 2) sc_def_at.nd rfl (Or.inl rfl))) (fun _ _ _ _ _ => (pts_one (pt_cmpR (op_eqX hr) (pe_ix ix_seq (pv 2) pe_int (fun _ _ => rfl)) (pv 1) (nomark _)))) (fun _ _ _ _ _ => (pv 2))) pe_int (fun _ _ => rfl))))
theorem sc_places_of : FnScope N_places_of ["program"] (defScope s_places_of) := ⟨rfl, rfl, rfl, by decide +kernel, rfl, by decide +kernel, by decide +kernel⟩
theorem ok_places_of (F : Facts K mg w) : C8.Cal P w K mg base 1 "places_of" (sp_places_of K w) [] := by
  refine calX F.g_places_of F.d_places_of sc_places_of (bindsX F.d_places_of (fun _ _ _ _ _ _ us hl => match us, hl with | [_], _ => rfl)) (fun hr => ?_)
  exact (pss_one (ps_ret (pe_callB (cr_sortX hr rfl) rfl F.n_sorted (by decide +kernel) (pa_cons (pe_lc2 (own := [("one", 1), ("label", 2), ("act", 3)]) (vs1 := [2, 3]) rfl sc_places_of.nd (pi_seqX (pe_ix ix_seq (pv 0) pe_int (fun _ _ => rfl))) (blkOk_by (own := [("one", 1), ("label", 2), ("act", 3)]) (N := N_places_of) (sc := defScope s_places_of) (by decide +kernel)) (by decide) (fun _ _ _ _ _ => (pg_name (i := 1) sc_places_of.nd rfl (Or.inl rfl))) (fun _ _ _ _ _ => pts_nil) (fun _ _ _ _ _ => (pi_seqX (pe_ix ix_seq (pv 1) pe_int (fun _ _ => rfl)))) (fun _ _ _ _ _ => (pg_tup rfl (pgs_cons (pg_name (i := 2) sc_places_of.nd rfl (Or.inl rfl)) (pgs_cons (pg_name (i := 3) sc_places_of.nd rfl (Or.inl rfl)) pgs_nil)))) (fun _ _ _ _ _ => pts_nil) (fun _ _ _ _ _ => (pe_tup (pa_cons (pe_ix ix_seq (pv 1) pe_int (fun _ _ => rfl)) (pa_cons (pv 2) pa_nil))))) pa_nil))))
theorem sc_act_at : FnScope N_act_at ["program", "place"] (defScope s_act_at) := ⟨rfl, rfl, rfl, by decide +kernel, rfl, by decide +kernel, by decide +kernel⟩
theorem ok_act_at (F : Facts K mg w) : C8.Cal P w K mg base 2 "act_at" (sp_act_at K w) [] := by
  refine calX F.g_act_at F.d_act_at sc_act_at (bindsX F.d_act_at (fun _ _ _ _ _ _ us hl => match us, hl with | [_, _], _ => rfl)) (fun hr => ?_)
  exact (pss_one (ps_ret (pe_dget (hu_of hr) (pe_callTy (call_dicX rfl) rfl F.n_dict (by decide +kernel) (pa_cons (pe_ix ix_seq (C8.pe_c (ok_def_at F) hr (by decide) rfl (pa_cons (pv 0) (pa_cons (pe_ix ix_seq (pv 1) pe_int (fun _ _ => rfl)) pa_nil))) pe_int (fun _ _ => rfl)) pa_nil)) (pe_ix ix_seq (pv 1) pe_int (fun _ _ => rfl)) (fun _ _ => rfl))))
theorem sc_side_of : FnScope N_side_of ["side", "state"] (defScope s_side_of) := ⟨rfl, rfl, rfl, by decide +kernel, rfl, by decide +kernel, by decide +kernel⟩
theorem ok_side_of (F : Facts K mg w) : C8.Cal P w K mg base 1 "side_of" (sp_side_of K w) [] := by
  refine calX F.g_side_of F.d_side_of sc_side_of (bindsX F.d_side_of (fun _ _ _ _ _ _ us hl => match us, hl with | [_, _], _ => rfl)) (fun hr => ?_)
  exact (pss_one (ps_ret (pe_ifExp (pt_val (pe_callB call_isiX rfl F.n_isinstance (by decide +kernel) (pa_cons (pv 0) (pa_cons (pe_bltn rfl F.n_str (by decide +kernel) rfl) pa_nil)))) (pe_dget (hu_of hr) (pv 1) (pv 0) (fun _ _ => rfl)) (pv 0))))
theorem sc_is_so : FnScope N_is_so ["first", "sign", "second", "state"] (defScope s_is_so) := ⟨rfl, rfl, rfl, by decide +kernel, rfl, by decide +kernel, by decide +kernel⟩
theorem ok_is_so (F : Facts K mg w) : C8.Cal P w K mg base 2 "is_so" (sp_is_so K w) [] := by
  refine calX F.g_is_so F.d_is_so sc_is_so (bindsX F.d_is_so (fun _ _ _ _ _ _ us hl => match us, hl with | [_, _, _, _], _ => rfl)) (fun hr => ?_)
  exact (pss_cons (ps_par (i := 4) (j := 5) rfl sc_is_so.nd rfl rfl (by decide) rfl rfl (pa_cons (C8.pe_c (ok_side_of F) hr (by decide) rfl (pa_cons (pv 0) (pa_cons (pv 3) pa_nil))) (pa_cons (C8.pe_c (ok_side_of F) hr (by decide) rfl (pa_cons (pv 2) (pa_cons (pv 3) pa_nil))) pa_nil)) (by rfl)) (pss_one (ps_ret (pe_ifExp (pt_cmpR (op_eqX hr) (pv 1) pe_str (nomark _)) (pe_cmpR op_lt (pv 4) (pv 5) (nomark _)) (pe_cmpR op_le (pv 4) (pv 5) (nomark _))))))
theorem sc_looks : FnScope N_looks ["program"] (defScope s_looks) := ⟨rfl, rfl, rfl, by decide +kernel, rfl, by decide +kernel, by decide +kernel⟩
theorem ok_looks (F : Facts K mg w) : C8.Cal P w K mg base 3 "looks" (sp_looks K w) [] := by
  refine calX F.g_looks F.d_looks sc_looks (bindsX F.d_looks (fun _ _ _ _ _ _ us hl => match us, hl with | [_], _ => rfl)) (fun hr => ?_)
  exact (pss_cons (ps_setLc (i := 1) (own := [("place", 2)]) rfl sc_looks.nd rfl rfl (sw_true rfl rfl rfl (by decide +kernel)) (pi_seqX (C8.pe_c (ok_places_of F) hr (by decide) rfl (pa_cons (pv 0) pa_nil))) (blkOk_by (own := [("place", 2)]) (N := N_looks) (sc := defScope s_looks) (by decide +kernel)) (fun _ _ _ _ _ => (pg_name (i := 2) sc_looks.nd rfl (Or.inl rfl))) (fun _ _ _ _ _ => pts_nil) (fun _ _ _ _ _ => (pe_tup (pa_cons (pv 2) (pa_cons (pe_ix ix_seq (C8.pe_c (ok_act_at F) hr (by decide) rfl (pa_cons (pv 0) (pa_cons (pv 2) pa_nil))) pe_int (fun _ _ => rfl)) pa_nil))))) (pss_one (ps_ret (pe_lc (own := [("place", 2), ("kind", 3)]) rfl sc_looks.nd (pi_seqX (pv 1)) (blkOk_by (own := [("place", 2), ("kind", 3)]) (N := N_looks) (sc := defScope s_looks) (by decide +kernel)) (fun _ _ _ _ _ => (pg_tup rfl (pgs_cons (pg_name (i := 2) sc_looks.nd rfl (Or.inl rfl)) (pgs_cons (pg_name (i := 3) sc_looks.nd rfl (Or.inl rfl)) pgs_nil)))) (fun _ _ _ _ _ => (pts_one (pt_cmpR (op_inKX F.kd_WHYS) (pv 3) (pe_glob rfl F.g_WHYS rfl) (by with_unfolding_all rfl)))) (fun _ _ _ _ _ => (pe_tup (pa_cons (pv 2) (pa_cons (pe_ix ix_kdict (pe_glob rfl F.g_WHYS rfl) (pv 3) (fun _ _ => rfl)) pa_nil))))))))
theorem sc_head_row : FnScope N_head_row ["definition", "first"] (defScope s_head_row) := ⟨rfl, rfl, rfl, by decide +kernel, rfl, by decide +kernel, by decide +kernel⟩
theorem ok_head_row (F : Facts K mg w) : C8.Cal P w K mg base 4 "head_row" (sp_head_row K w) [] := by
  refine calX F.g_head_row F.d_head_row sc_head_row (bindsX F.d_head_row (fun _ _ _ _ _ _ us hl => match us, hl with | [_, _], _ => rfl)) (fun hr => ?_)
  exact (pss_cons (ps_asg (pv 0) (pg_tup rfl (pgs_cons (pg_name (i := 2) sc_head_row.nd rfl (Or.inl rfl)) (pgs_cons (pg_name (i := 3) sc_head_row.nd rfl (Or.inl rfl)) (pgs_cons (pg_name (i := 4) sc_head_row.nd rfl (Or.inl rfl)) (pgs_cons (pg_name (i := 5) sc_head_row.nd rfl (Or.inl rfl)) (pgs_cons (pg_name (i := 6) sc_head_row.nd rfl (Or.inl rfl)) pgs_nil))))))) (pss_one (ps_ret (pe_tup (pa_cons pe_str (pa_cons (pv 3) (pa_cons (pe_callTy call_tupX rfl F.n_tuple (by decide +kernel) (pa_cons (C8.pe_c (ok_numbers_of F) hr (by decide) rfl (pa_cons (pv 0) pa_nil)) pa_nil)) (pa_cons (pv 5) (pa_cons (pv 1) pa_nil)))))))))
theorem sc_step_row : FnScope N_step_row ["place", "act", "numbers", "heads", "looked"] (defScope s_step_row) := ⟨rfl, rfl, rfl, by decide +kernel, rfl, by decide +kernel, by decide +kernel⟩
theorem ok_step_row (F : Facts K mg w) : C8.Cal P w K mg base 1 "step_row" (sp_step_row K w) [] := by
  refine calX F.g_step_row F.d_step_row sc_step_row (bindsX F.d_step_row (fun _ _ _ _ _ _ us hl => match us, hl with | [_, _, _, _, _], _ => rfl)) (fun hr => ?_)
  exact (pss_cons (ps_set (i := 5) sc_step_row.nd rfl (Or.inl rfl) (pe_slice sl_X (pv 1) (po_some pe_int) po_none)) (pss_cons (ps_set (i := 6) sc_step_row.nd rfl (Or.inl rfl) (pe_op op_addX (pe_dget (hu_of hr) (pv 2) (pv 0) (fun _ _ => rfl)) pe_int)) (C8.pss_cut (ps_if (pt_cmpR (op_inX hr) (pe_ix ix_seq (pv 1) pe_int (fun _ _ => rfl)) (pe_tup (pa_cons pe_str (pa_cons pe_str pa_nil))) (by with_unfolding_all rfl)) (pss_one (ps_set (i := 5) sc_step_row.nd rfl (Or.inl rfl) (pe_op op_addX (pe_slice sl_X (pv 1) (po_some pe_int) (po_some (pe_un un_neg pe_int))) (pe_tup (pa_cons (pe_dget (hu_of hr) (pv 2) (pe_tup (pa_cons (pe_ix ix_seq (pv 0) pe_int (fun _ _ => rfl)) (pa_cons (pe_ix ix_seq (pv 1) (pe_un un_neg pe_int) (fun _ _ => rfl)) pa_nil))) (fun _ _ => rfl)) pa_nil))))) pss_nil) (C8.pss_cut (ps_if (pt_cmpR (op_eqX hr) (pe_ix ix_seq (pv 1) pe_int (fun _ _ => rfl)) pe_str (nomark _)) (pss_one (ps_set (i := 5) sc_step_row.nd rfl (Or.inl rfl) (pe_tup (pa_cons (pe_ix ix_seq (pv 1) pe_int (fun _ _ => rfl)) (pa_cons (pe_dget (hu_of hr) (pv 3) (pe_ix ix_seq (pv 1) pe_int (fun _ _ => rfl)) (fun _ _ => rfl)) (pa_cons (pe_ix ix_seq (pv 1) pe_int (fun _ _ => rfl)) pa_nil)))))) pss_nil) (pss_one (ps_ret (pe_tup (pa_cons (pe_ix ix_seq (pv 1) pe_int (fun _ _ => rfl)) (pa_cons (pv 0) (pa_cons (pv 4) (pa_cons (pv 5) (pa_cons (pv 6) pa_nil))))))))))))
theorem sc_compiled : FnScope N_compiled ["program", "left_out"] (defScope s_compiled) := ⟨rfl, rfl, rfl, by decide +kernel, rfl, by decide +kernel, by decide +kernel⟩
theorem fo_compiled {fd : FuncData} (F : Facts K mg w) (FD : FunD K "compiled" "compiled" (defArgs s_compiled) (defBody s_compiled) (defScope s_compiled) [] (H72.d_compiled.kws K) (He.ga K "compiled") fd) : FnOk P w K mg base CX0 5 (He.ga K "compiled") fd ["program", "left_out"] (sp_compiled K w) := by
  refine foX FD sc_compiled (fun hr => ?_)
  exact (pss_cons (ps_asg (pv 0) (pg_tup rfl (pgs_cons (pg_name (i := 2) sc_compiled.nd rfl (Or.inl rfl)) (pgs_cons (pg_name (i := 3) sc_compiled.nd rfl (Or.inr rfl)) pgs_nil)))) (pss_cons (ps_setDc (i := 5) (own := [("k", 12), ("one", 4)]) rfl sc_compiled.nd rfl rfl (sw_trueD rfl rfl rfl (by decide +kernel)) (pi_enumX (by rfl) F.n_enumerate (pa_cons (pv 3) pa_nil)) (blkOk_by (own := [("k", 12), ("one", 4)]) (N := N_compiled) (sc := defScope s_compiled) (by decide +kernel)) (fun _ _ _ _ _ => (pg_tup rfl (pgs_cons (pg_name (i := 12) sc_compiled.nd rfl (Or.inl rfl)) (pgs_cons (pg_name (i := 4) sc_compiled.nd rfl (Or.inl rfl)) pgs_nil)))) (fun _ _ _ _ _ => pts_nil) (fun _ _ _ _ _ => (pe_ix ix_seq (pv 4) pe_int (fun _ _ => rfl))) (fun _ _ _ _ _ => (pe_op op_addX pe_int (pv 12)))) (pss_cons (ps_set (i := 6) sc_compiled.nd rfl (Or.inr rfl) pe_dnewT) (pss_cons (ps_for PassesOwn.never rfl (pi_seqX (pv 3)) (pg_name (i := 4) sc_compiled.nd rfl (Or.inr rfl)) (pss_one (ps_expr (pe_bm PySem.F.plainAttrs_dict PySem.F.slot_dict_update PySem.F.type_dict_update (mt_updateX hr) (pv 6) (pa_cons (pe_dcT (own := [("k", 12), ("label", 7), ("act", 8)]) hr rfl sc_compiled.nd (pi_enumX (by rfl) F.n_enumerate (pa_cons (pe_ix ix_seq (pv 4) pe_int (fun _ _ => rfl)) pa_nil)) (blkOk_by (own := [("k", 12), ("label", 7), ("act", 8)]) (N := N_compiled) (sc := defScope s_compiled) (by decide +kernel)) (fun _ _ _ _ _ => (pg_tup rfl (pgs_cons (pg_name (i := 12) sc_compiled.nd rfl (Or.inl rfl)) (pgs_cons (pg_tup rfl (pgs_cons (pg_name (i := 7) sc_compiled.nd rfl (Or.inl rfl)) (pgs_cons (pg_name (i := 8) sc_compiled.nd rfl (Or.inl rfl)) pgs_nil))) pgs_nil)))) (fun _ _ _ _ _ => pts_nil) (fun _ _ _ _ _ => (pe_tup (pa_cons (pe_ix ix_seq (pv 4) pe_int (fun _ _ => rfl)) (pa_cons (pv 7) pa_nil)))) (fun _ _ _ _ _ => (pe_op op_addX (pe_op op_addX (pe_op op_addX pe_int (pe_callB call_lenX rfl F.n_len (by decide +kernel) (pa_cons (pv 3) pa_nil))) (pe_callB call_lenX rfl F.n_len (by decide +kernel) (pa_cons (pv 6) pa_nil))) (pv 12)))) pa_nil))))) (pss_cons (ps_set (i := 9) sc_compiled.nd rfl (Or.inl rfl) (pe_lst (pa_cons (pe_tup (pa_cons pe_str (pa_cons (pv 2) (pa_cons (pe_dget (hu_of hr) (pv 5) pe_str (fun _ _ => rfl)) pa_nil)))) pa_nil))) (pss_cons (ps_expr (pe_bm PySem.F.plainAttrs_list PySem.F.slot_list_extend PySem.F.type_list_extend mt_extendX (pv 9) (pa_cons (pe_lc (own := [("one", 4)]) rfl sc_compiled.nd (pi_seqX (pv 3)) (blkOk_by (own := [("one", 4)]) (N := N_compiled) (sc := defScope s_compiled) (by decide +kernel)) (fun _ _ _ _ _ => (pg_name (i := 4) sc_compiled.nd rfl (Or.inl rfl))) (fun _ _ _ _ _ => pts_nil) (fun _ _ _ _ _ => (C8.pe_c (ok_head_row F) hr (by decide) rfl (pa_cons (pv 4) (pa_cons (pe_dget (hu_of hr) (pv 6) (pe_tup (pa_cons (pe_ix ix_seq (pv 4) pe_int (fun _ _ => rfl)) (pa_cons (pe_ix ix_seq (pe_ix ix_seq (pe_ix ix_seq (pv 4) pe_int (fun _ _ => rfl)) pe_int (fun _ _ => rfl)) pe_int (fun _ _ => rfl)) pa_nil))) (fun _ _ => rfl)) pa_nil))))) pa_nil))) (pss_cons (ps_for PassesOwn.never rfl (pi_seqX (pv 3)) (pg_name (i := 4) sc_compiled.nd rfl (Or.inr rfl)) (pss_one (ps_for PassesOwn.never rfl (pi_seqX (pe_ix ix_seq (pv 4) pe_int (fun _ _ => rfl))) (pg_tup rfl (pgs_cons (pg_name (i := 7) sc_compiled.nd rfl (Or.inl rfl)) (pgs_cons (pg_name (i := 8) sc_compiled.nd rfl (Or.inl rfl)) pgs_nil))) (pss_cons (ps_set (i := 10) sc_compiled.nd rfl (Or.inl rfl) (pe_tup (pa_cons (pe_ix ix_seq (pv 4) pe_int (fun _ _ => rfl)) (pa_cons (pv 7) pa_nil)))) (pss_cons (ps_set (i := 11) sc_compiled.nd rfl (Or.inl rfl) (pe_and (pe_cmpR (op_inKX F.kd_WHYS) (pe_ix ix_seq (pv 8) pe_int (fun _ _ => rfl)) (pe_glob rfl F.g_WHYS rfl) (by with_unfolding_all rfl)) (pe_one (pe_cmpR (op_notInX hr) (pv 10) (pv 1) (by with_unfolding_all rfl))))) (pss_one (ps_expr (pe_bm PySem.F.plainAttrs_list PySem.F.slot_list_append PySem.F.type_list_append mt_append (pv 9) (pa_cons (C8.pe_c (ok_step_row F) hr (by decide) rfl (pa_cons (pv 10) (pa_cons (pv 8) (pa_cons (pv 6) (pa_cons (pv 5) (pa_cons (pv 11) pa_nil)))))) pa_nil))))))))) (pss_one (ps_ret (pv 9))))))))))
theorem sc_Frame_init : FnScope N_Frame_init ["self", "head", "top"] (defScope s_Frame_init) := ⟨rfl, rfl, rfl, by decide +kernel, rfl, by decide +kernel, by decide +kernel⟩
theorem mk_Frame (F : Facts K mg w) : C8.Mak P w K mg base 1 "Frame" (He.ga K "Frame") (sp_Frame_init K w) [] := by
  refine makX F.mk_Frame F.g_Frame F.d_Frame_init sc_Frame_init (bindsX F.d_Frame_init (fun _ _ _ _ _ _ us hl => match us, hl with | [_, _, _], _ => rfl)) (fun hr => ?_)
  exact (pss_cons (ps_fld (pv 0) (pe_dc (own := [("name", 3)]) rfl sc_Frame_init.nd (pi_seqX (pe_ix ix_seq (pv 1) pe_int (fun _ _ => rfl))) (blkOk_by (own := [("name", 3)]) (N := N_Frame_init) (sc := defScope s_Frame_init) (by decide +kernel)) (fun _ _ _ _ _ => (pg_name (i := 3) sc_Frame_init.nd rfl (Or.inl rfl))) (fun _ _ _ _ _ => pts_nil) (fun _ _ _ _ _ => (pv 3)) (fun _ _ _ _ _ => pe_int)) rfl) (pss_cons (ps_fld (pv 0) (pe_dc (own := [("name", 3)]) rfl sc_Frame_init.nd (pi_seqX (pe_ix ix_seq (pv 1) pe_int (fun _ _ => rfl))) (blkOk_by (own := [("name", 3)]) (N := N_Frame_init) (sc := defScope s_Frame_init) (by decide +kernel)) (fun _ _ _ _ _ => (pg_name (i := 3) sc_Frame_init.nd rfl (Or.inl rfl))) (fun _ _ _ _ _ => pts_nil) (fun _ _ _ _ _ => (pv 3)) (fun _ _ _ _ _ => (pe_tup (pa_cons pe_int (pa_cons pe_int pa_nil))))) rfl) (pss_cons (ps_fld (pv 0) (pv 2) rfl) (pss_one (ps_fld (pv 0) (pe_ix ix_seq (pv 1) pe_int (fun _ _ => rfl)) rfl)))))
theorem sc_Machine_init : FnScope N_Machine_init ["self", "rows", "words", "steps"] (defScope s_Machine_init) := ⟨rfl, rfl, rfl, by decide +kernel, rfl, by decide +kernel, by decide +kernel⟩
theorem mk_Machine (F : Facts K mg w) : C8.Mak P w K mg base 3 "Machine" (He.ga K "Machine") (sp_Machine_init K w) [] := by
  refine makX F.mk_Machine F.g_Machine F.d_Machine_init sc_Machine_init (bindsX F.d_Machine_init (fun _ _ _ _ _ _ us hl => match us, hl with | [_, _, _, _], _ => rfl)) (fun hr => ?_)
  exact (pss_cons (ps_fld (pv 0) (pv 1) rfl) (pss_cons (ps_fld (pv 0) (pe_ix ix_seq (pe_ix ix_seq (pv 1) pe_int (fun _ _ => rfl)) pe_int (fun _ _ => rfl)) rfl) (pss_cons (ps_fld (pv 0) (pe_callTy call_list_of rfl F.n_list (by decide +kernel) (pa_cons (pv 2) pa_nil)) rfl) (pss_cons (ps_fld (pv 0) (pv 3) rfl) (pss_cons (ps_fld (pv 0) pe_dnewK rfl) (pss_cons (ps_fld (pv 0) pe_int rfl) (pss_cons (ps_fld (pv 0) (pe_lst (pa_cons (C8.pe_mk (mk_Frame F) hr (by decide) rfl (pa_cons (pe_ix ix_seq (pv 1) (pe_ix ix_seq (pe_ix ix_seq (pv 1) pe_int (fun _ _ => rfl)) pe_int (fun _ _ => rfl)) (fun _ _ => rfl)) (pa_cons pe_int pa_nil))) pa_nil)) rfl) (pss_cons (ps_fld (pv 0) (pe_lst pa_nil) rfl) (pss_cons (ps_fld (pv 0) pe_int rfl) (pss_cons (ps_fld (pv 0) pe_int rfl) (pss_one (ps_fld (pv 0) pe_non rfl))))))))))))
theorem sc_Machine_laid : FnScope N_Machine_laid ["self", "words"] (defScope s_Machine_laid) := ⟨rfl, rfl, rfl, by decide +kernel, rfl, by decide +kernel, by decide +kernel⟩
theorem mt_Machine_laid (F : Facts K mg w) : C8.Met P w K mg base 1 (He.ga K "Machine") "laid" (sp_Machine_laid K w) [] := by
  refine metX F.cl_Machine F.mt_Machine_laid F.d_Machine_laid sc_Machine_laid (bindsX F.d_Machine_laid (fun _ _ _ _ _ _ us hl => match us, hl with | [_, _], _ => rfl)) (fun hr => ?_)
  exact (pss_cons (ps_set (i := 2) sc_Machine_laid.nd rfl (Or.inl rfl) (pe_tup (pa_cons (pe_fld (pv 0) rfl) (pa_cons (pe_callB call_lenX rfl F.n_len (by decide +kernel) (pa_cons (pv 1) pa_nil)) pa_nil)))) (pss_cons (ps_for PassesOwn.never rfl (pi_seqX (pv 1)) (pg_name (i := 3) sc_Machine_laid.nd rfl (Or.inl rfl)) (pss_cons (ps_dput (hu_of hr) (pe_fld (pv 0) rfl) (pe_fld (pv 0) rfl) (pv 3) rfl) (pss_one (ps_fldaug (pv 0) pe_int in_add)))) (pss_one (ps_ret (pv 2)))))
theorem sc_Machine_cells : FnScope N_Machine_cells ["self", "lying"] (defScope s_Machine_cells) := ⟨rfl, rfl, rfl, by decide +kernel, rfl, by decide +kernel, by decide +kernel⟩
theorem mt_Machine_cells (F : Facts K mg w) : C8.Met P w K mg base 1 (He.ga K "Machine") "cells" (sp_Machine_cells K w) [] := by
  refine metX F.cl_Machine F.mt_Machine_cells F.d_Machine_cells sc_Machine_cells (bindsX F.d_Machine_cells (fun _ _ _ _ _ _ us hl => match us, hl with | [_, _], _ => rfl)) (fun hr => ?_)
  exact (pss_cons (ps_asg (pv 1) (pg_tup rfl (pgs_cons (pg_name (i := 2) sc_Machine_cells.nd rfl (Or.inr rfl)) (pgs_cons (pg_name (i := 3) sc_Machine_cells.nd rfl (Or.inl rfl)) pgs_nil)))) (pss_one (ps_ret (pe_lc (own := [("k", 4)]) rfl sc_Machine_cells.nd (pi_range1 rfl F.n_range (pa_cons (pv 3) pa_nil)) (blkOk_by (own := [("k", 4)]) (N := N_Machine_cells) (sc := defScope s_Machine_cells) (by decide +kernel)) (fun _ _ _ _ _ => (pg_name (i := 4) sc_Machine_cells.nd rfl (Or.inl rfl))) (fun _ _ _ _ _ => pts_nil) (fun _ _ _ _ _ => (pe_dget2 (hu_of hr) (pe_fld (pv 0) rfl) (pe_op op_addX (pv 2) (pv 4)) pe_int ⟨rfl, rfl, rfl, rfl⟩))))))
theorem sc_Machine_fails : FnScope N_Machine_fails ["self", "row", "wrong"] (defScope s_Machine_fails) := ⟨rfl, rfl, rfl, by decide +kernel, rfl, by decide +kernel, by decide +kernel⟩
theorem mt_Machine_fails (F : Facts K mg w) : C8.Met P w K mg base 1 (He.ga K "Machine") "fails" (sp_Machine_fails K w) [] := by
  refine metX F.cl_Machine F.mt_Machine_fails F.d_Machine_fails sc_Machine_fails (bindsX F.d_Machine_fails (fun _ _ _ _ _ _ us hl => match us, hl with | [_, _, _], _ => rfl)) (fun hr => ?_)
  exact (pss_cons (ps_if (pt_not (pt_val (pe_ix ix_seq (pv 1) pe_int (fun _ _ => rfl)))) (pss_one (ps_ret pe_bl)) pss_nil) (pss_cons (ps_fldaug (pv 0) pe_int in_add) (C8.pss_cut (ps_if (pt_val (pv 2)) (pss_one (ps_fld (pv 0) (pe_tup (pa_cons pe_str (pa_cons (pe_ix ix_kdict (pe_glob rfl F.g_WHYS rfl) (pe_ix ix_seq (pv 1) pe_int (fun _ _ => rfl)) (fun _ _ => rfl)) (pa_cons (pe_ix ix_seq (pv 1) pe_int (fun _ _ => rfl)) pa_nil)))) rfl)) pss_nil) (pss_one (ps_ret (pv 2))))))
theorem sc_on_set : FnScope N_on_set ["machine", "frame", "row"] (defScope s_on_set) := ⟨rfl, rfl, rfl, by decide +kernel, rfl, by decide +kernel, by decide +kernel⟩
theorem ok_on_set (F : Facts K mg w) : C8.Cal P w K mg base 1 "on_set" (sp_on_set K w) [] := by
  refine calX F.g_on_set F.d_on_set sc_on_set (bindsX F.d_on_set (fun _ _ _ _ _ _ us hl => match us, hl with | [_, _, _], _ => rfl)) (fun hr => ?_)
  exact (pss_cons (ps_asg (pe_ix ix_seq (pv 2) pe_int (fun _ _ => rfl)) (pg_tup rfl (pgs_cons (pg_name (i := 3) sc_on_set.nd rfl (Or.inl rfl)) (pgs_cons (pg_name (i := 4) sc_on_set.nd rfl (Or.inl rfl)) pgs_nil)))) (pss_one (ps_dput (hu_of hr) (pe_fld (pv 1) rfl) (pv 3) (pv 4) rfl)))
theorem sc_on_sum : FnScope N_on_sum ["machine", "frame", "row"] (defScope s_on_sum) := ⟨rfl, rfl, rfl, by decide +kernel, rfl, by decide +kernel, by decide +kernel⟩
theorem ok_on_sum (F : Facts K mg w) : C8.Cal P w K mg base 2 "on_sum" (sp_on_sum K w) [] := by
  refine calX F.g_on_sum F.d_on_sum sc_on_sum (bindsX F.d_on_sum (fun _ _ _ _ _ _ us hl => match us, hl with | [_, _, _], _ => rfl)) (fun hr => ?_)
  exact (pss_cons (ps_asg (pe_ix ix_seq (pv 2) pe_int (fun _ _ => rfl)) (pg_tup rfl (pgs_cons (pg_name (i := 3) sc_on_sum.nd rfl (Or.inl rfl)) (pgs_cons (pg_name (i := 4) sc_on_sum.nd rfl (Or.inl rfl)) (pgs_cons (pg_name (i := 5) sc_on_sum.nd rfl (Or.inl rfl)) pgs_nil))))) (pss_cons (ps_set (i := 6) sc_on_sum.nd rfl (Or.inl rfl) (pe_dget (hu_of hr) (pe_fld (pv 1) rfl) (pv 4) (fun _ _ => rfl))) (pss_cons (ps_set (i := 7) sc_on_sum.nd rfl (Or.inl rfl) (pe_ifExp (pt_val (pe_callB call_isiX rfl F.n_isinstance (by decide +kernel) (pa_cons (pv 5) (pa_cons (pe_bltn rfl F.n_str (by decide +kernel) rfl) pa_nil)))) (pe_dget (hu_of hr) (pe_fld (pv 1) rfl) (pv 5) (fun _ _ => rfl)) (pv 5))) (pss_cons (ps_set (i := 8) sc_on_sum.nd rfl (Or.inl rfl) (pe_op op_addX (pv 6) (pv 7))) (C8.pss_cut (ps_if (pt_cmpR (op_eqX hr) (pe_ix ix_seq (pv 2) pe_int (fun _ _ => rfl)) pe_str (nomark _)) (pss_one (ps_set (i := 8) sc_on_sum.nd rfl (Or.inl rfl) (pe_op op_sub (pv 6) (pv 7)))) pss_nil) (C8.pss_cut (ps_if (pt_cmpR (op_eqX hr) (pe_ix ix_seq (pv 2) pe_int (fun _ _ => rfl)) pe_str (nomark _)) (pss_one (ps_set (i := 8) sc_on_sum.nd rfl (Or.inl rfl) (pe_op op_mulX (pv 6) (pv 7)))) pss_nil) (pss_cons (ps_set (i := 9) sc_on_sum.nd rfl (Or.inl rfl) (pe_fld (pv 0) rfl)) (pss_one (ps_if (pt_not (pt_val (C8.pe_mt (mt_Machine_fails F) hr (by decide) (pv 0) (pa_cons (pv 2) (pa_cons (pe_not (pe_chain op_le op_le (pe_un un_neg (pv 9)) (pv 8) (pv 9))) pa_nil))))) (pss_one (ps_dput (hu_of hr) (pe_fld (pv 1) rfl) (pv 3) (pe_op op_sub (pe_op op_modN (pe_op op_addX (pv 8) (pv 9)) (pe_op op_addX (pe_op op_mulX pe_int (pv 9)) pe_int)) (pv 9)) rfl)) pss_nil)))))))))
theorem sc_on_over : FnScope N_on_over ["machine", "frame", "row"] (defScope s_on_over) := ⟨rfl, rfl, rfl, by decide +kernel, rfl, by decide +kernel, by decide +kernel⟩
theorem ok_on_over (F : Facts K mg w) : C8.Cal P w K mg base 2 "on_over" (sp_on_over K w) [] := by
  refine calX F.g_on_over F.d_on_over sc_on_over (bindsX F.d_on_over (fun _ _ _ _ _ _ us hl => match us, hl with | [_, _, _], _ => rfl)) (fun hr => ?_)
  exact (pss_cons (ps_asg (pe_ix ix_seq (pv 2) pe_int (fun _ _ => rfl)) (pg_tup rfl (pgs_cons (pg_name (i := 3) sc_on_over.nd rfl (Or.inl rfl)) (pgs_cons (pg_name (i := 4) sc_on_over.nd rfl (Or.inl rfl)) (pgs_cons (pg_name (i := 5) sc_on_over.nd rfl (Or.inl rfl)) pgs_nil))))) (pss_cons (ps_par (i := 6) (j := 7) rfl sc_on_over.nd rfl rfl (by decide) rfl rfl (pa_cons (pe_dget (hu_of hr) (pe_fld (pv 1) rfl) (pv 4) (fun _ _ => rfl)) (pa_cons (pe_dget (hu_of hr) (pe_fld (pv 1) rfl) (pv 5) (fun _ _ => rfl)) pa_nil)) (by rfl)) (pss_cons (ps_if (pt_val (C8.pe_mt (mt_Machine_fails F) hr (by decide) (pv 0) (pa_cons (pv 2) (pa_cons (pe_cmpR (op_eqX hr) (pv 7) pe_int (nomark _)) pa_nil)))) (pss_one ps_retN) pss_nil) (pss_cons (ps_set (i := 8) sc_on_over.nd rfl (Or.inl rfl) pe_int) (C8.pss_cut (ps_if (pt_cmpR (op_neX hr) (pv 7) pe_int (nomark _)) (pss_one (ps_set (i := 8) sc_on_over.nd rfl (Or.inl rfl) (pe_ifExp (pt_cmpR (op_eqX hr) (pe_ix ix_seq (pv 2) pe_int (fun _ _ => rfl)) pe_str (nomark _)) (pe_op op_fdvX (pv 6) (pv 7)) (pe_op op_modN (pv 6) (pv 7))))) pss_nil) (pss_one (ps_dput (hu_of hr) (pe_fld (pv 1) rfl) (pv 3) (pv 8) rfl)))))))
theorem sc_on_mid : FnScope N_on_mid ["machine", "frame", "row"] (defScope s_on_mid) := ⟨rfl, rfl, rfl, by decide +kernel, rfl, by decide +kernel, by decide +kernel⟩
theorem ok_on_mid (F : Facts K mg w) : C8.Cal P w K mg base 1 "on_mid" (sp_on_mid K w) [] := by
  refine calX F.g_on_mid F.d_on_mid sc_on_mid (bindsX F.d_on_mid (fun _ _ _ _ _ _ us hl => match us, hl with | [_, _, _], _ => rfl)) (fun hr => ?_)
  exact (pss_cons (ps_asg (pe_ix ix_seq (pv 2) pe_int (fun _ _ => rfl)) (pg_tup rfl (pgs_cons (pg_name (i := 3) sc_on_mid.nd rfl (Or.inl rfl)) (pgs_cons (pg_name (i := 4) sc_on_mid.nd rfl (Or.inl rfl)) (pgs_cons (pg_name (i := 5) sc_on_mid.nd rfl (Or.inl rfl)) pgs_nil))))) (pss_one (ps_dput (hu_of hr) (pe_fld (pv 1) rfl) (pv 3) (pe_op op_fdvX (pe_op op_addX (pe_dget (hu_of hr) (pe_fld (pv 1) rfl) (pv 4) (fun _ _ => rfl)) (pe_dget (hu_of hr) (pe_fld (pv 1) rfl) (pv 5) (fun _ _ => rfl))) pe_int) rfl)))
theorem sc_on_row : FnScope N_on_row ["machine", "frame", "row"] (defScope s_on_row) := ⟨rfl, rfl, rfl, by decide +kernel, rfl, by decide +kernel, by decide +kernel⟩
theorem ok_on_row (F : Facts K mg w) : C8.Cal P w K mg base 2 "on_row" (sp_on_row K w) [] := by
  refine calX F.g_on_row F.d_on_row sc_on_row (bindsX F.d_on_row (fun _ _ _ _ _ _ us hl => match us, hl with | [_, _, _], _ => rfl)) (fun hr => ?_)
  exact (pss_cons (ps_asg (pe_ix ix_seq (pv 2) pe_int (fun _ _ => rfl)) (pg_tup rfl (pgs_cons (pg_name (i := 3) sc_on_row.nd rfl (Or.inl rfl)) (pgs_cons (pg_name (i := 4) sc_on_row.nd rfl (Or.inl rfl)) pgs_nil)))) (pss_cons (ps_set (i := 5) sc_on_row.nd rfl (Or.inl rfl) (pe_dget (hu_of hr) (pe_fld (pv 1) rfl) (pv 4) (fun _ _ => rfl))) (pss_one (ps_if (pt_not (pt_val (C8.pe_mt (mt_Machine_fails F) hr (by decide) (pv 0) (pa_cons (pv 2) (pa_cons (pe_cmpR op_lt (pv 5) pe_int (nomark _)) pa_nil))))) (pss_one (ps_dput (hu_of hr) (pe_fld (pv 1) rfl) (pv 3) (C8.pe_mt (mt_Machine_laid F) hr (by decide) (pv 0) (pa_cons (pe_op op_mulX (pe_lst (pa_cons pe_int pa_nil)) (pe_callB (call_max2 rfl) rfl F.n_max (by decide +kernel) (pa_cons pe_int (pa_cons (pv 5) pa_nil)))) pa_nil)) rfl)) pss_nil))))
theorem sc_cell_of : FnScope N_cell_of ["machine", "frame", "row", "name", "one"] (defScope s_cell_of) := ⟨rfl, rfl, rfl, by decide +kernel, rfl, by decide +kernel, by decide +kernel⟩
theorem ok_cell_of (F : Facts K mg w) : C8.Cal P w K mg base 2 "cell_of" (sp_cell_of K w) [] := by
  refine calX F.g_cell_of F.d_cell_of sc_cell_of (bindsX F.d_cell_of (fun _ _ _ _ _ _ us hl => match us, hl with | [_, _, _, _, _], _ => rfl)) (fun hr => ?_)
  exact (pss_cons (ps_asg (pe_dget (hu_of hr) (pe_fld (pv 1) rfl) (pv 3) (fun _ _ => rfl)) (pg_tup rfl (pgs_cons (pg_name (i := 5) sc_cell_of.nd rfl (Or.inl rfl)) (pgs_cons (pg_name (i := 6) sc_cell_of.nd rfl (Or.inl rfl)) pgs_nil)))) (pss_cons (ps_set (i := 7) sc_cell_of.nd rfl (Or.inl rfl) (pe_dget (hu_of hr) (pe_fld (pv 1) rfl) (pv 4) (fun _ _ => rfl))) (pss_one (ps_ret (pe_ifExp (pt_val (C8.pe_mt (mt_Machine_fails F) hr (by decide) (pv 0) (pa_cons (pv 2) (pa_cons (pe_not (pe_chain op_le op_lt pe_int (pv 7) (pv 6))) pa_nil)))) pe_non (pe_op op_addX (pv 5) (pv 7)))))))
theorem sc_on_get : FnScope N_on_get ["machine", "frame", "row"] (defScope s_on_get) := ⟨rfl, rfl, rfl, by decide +kernel, rfl, by decide +kernel, by decide +kernel⟩
theorem ok_on_get (F : Facts K mg w) : C8.Cal P w K mg base 3 "on_get" (sp_on_get K w) [] := by
  refine calX F.g_on_get F.d_on_get sc_on_get (bindsX F.d_on_get (fun _ _ _ _ _ _ us hl => match us, hl with | [_, _, _], _ => rfl)) (fun hr => ?_)
  exact (pss_cons (ps_asg (pe_ix ix_seq (pv 2) pe_int (fun _ _ => rfl)) (pg_tup rfl (pgs_cons (pg_name (i := 3) sc_on_get.nd rfl (Or.inl rfl)) (pgs_cons (pg_name (i := 4) sc_on_get.nd rfl (Or.inl rfl)) (pgs_cons (pg_name (i := 5) sc_on_get.nd rfl (Or.inl rfl)) pgs_nil))))) (pss_cons (ps_set (i := 6) sc_on_get.nd rfl (Or.inl rfl) (C8.pe_c (ok_cell_of F) hr (by decide) rfl (pa_cons (pv 0) (pa_cons (pv 1) (pa_cons (pv 2) (pa_cons (pv 4) (pa_cons (pv 5) pa_nil))))))) (pss_one (ps_if (pt_cmpR op_notN (pv 6) pe_non (nomark _)) (pss_one (ps_dput (hu_of hr) (pe_fld (pv 1) rfl) (pv 3) (pe_dget2 (hu_of hr) (pe_fld (pv 0) rfl) (pv 6) pe_int ⟨rfl, rfl, rfl, rfl⟩) rfl)) pss_nil))))
theorem sc_on_put : FnScope N_on_put ["machine", "frame", "row"] (defScope s_on_put) := ⟨rfl, rfl, rfl, by decide +kernel, rfl, by decide +kernel, by decide +kernel⟩
theorem ok_on_put (F : Facts K mg w) : C8.Cal P w K mg base 3 "on_put" (sp_on_put K w) [] := by
  refine calX F.g_on_put F.d_on_put sc_on_put (bindsX F.d_on_put (fun _ _ _ _ _ _ us hl => match us, hl with | [_, _, _], _ => rfl)) (fun hr => ?_)
  exact (pss_cons (ps_asg (pe_ix ix_seq (pv 2) pe_int (fun _ _ => rfl)) (pg_tup rfl (pgs_cons (pg_name (i := 3) sc_on_put.nd rfl (Or.inl rfl)) (pgs_cons (pg_name (i := 4) sc_on_put.nd rfl (Or.inl rfl)) (pgs_cons (pg_name (i := 5) sc_on_put.nd rfl (Or.inl rfl)) pgs_nil))))) (pss_cons (ps_set (i := 6) sc_on_put.nd rfl (Or.inl rfl) (C8.pe_c (ok_cell_of F) hr (by decide) rfl (pa_cons (pv 0) (pa_cons (pv 1) (pa_cons (pv 2) (pa_cons (pv 3) (pa_cons (pv 4) pa_nil))))))) (pss_one (ps_if (pt_cmpR op_notN (pv 6) pe_non (nomark _)) (pss_one (ps_dput (hu_of hr) (pe_fld (pv 0) rfl) (pv 6) (pe_dget (hu_of hr) (pe_fld (pv 1) rfl) (pv 5) (fun _ _ => rfl)) rfl)) pss_nil))))
theorem sc_on_length : FnScope N_on_length ["machine", "frame", "row"] (defScope s_on_length) := ⟨rfl, rfl, rfl, by decide +kernel, rfl, by decide +kernel, by decide +kernel⟩
theorem ok_on_length (F : Facts K mg w) : C8.Cal P w K mg base 1 "on_length" (sp_on_length K w) [] := by
  refine calX F.g_on_length F.d_on_length sc_on_length (bindsX F.d_on_length (fun _ _ _ _ _ _ us hl => match us, hl with | [_, _, _], _ => rfl)) (fun hr => ?_)
  exact (pss_cons (ps_asg (pe_ix ix_seq (pv 2) pe_int (fun _ _ => rfl)) (pg_tup rfl (pgs_cons (pg_name (i := 3) sc_on_length.nd rfl (Or.inl rfl)) (pgs_cons (pg_name (i := 4) sc_on_length.nd rfl (Or.inl rfl)) pgs_nil)))) (pss_one (ps_dput (hu_of hr) (pe_fld (pv 1) rfl) (pv 3) (pe_ix ix_seq (pe_dget (hu_of hr) (pe_fld (pv 1) rfl) (pv 4) (fun _ _ => rfl)) pe_int (fun _ _ => rfl)) rfl)))
theorem sc_on_ask : FnScope N_on_ask ["machine", "frame", "row"] (defScope s_on_ask) := ⟨rfl, rfl, rfl, by decide +kernel, rfl, by decide +kernel, by decide +kernel⟩
theorem ok_on_ask (F : Facts K mg w) : C8.Cal P w K mg base 1 "on_ask" (sp_on_ask K w) [] := by
  refine calX F.g_on_ask F.d_on_ask sc_on_ask (bindsX F.d_on_ask (fun _ _ _ _ _ _ us hl => match us, hl with | [_, _, _], _ => rfl)) (fun hr => ?_)
  exact (pss_cons (ps_asg (pe_ix ix_seq (pv 2) pe_int (fun _ _ => rfl)) (pg_tup rfl (pgs_cons (pg_name (i := 3) sc_on_ask.nd rfl (Or.inl rfl)) (pgs_cons (pg_name (i := 4) sc_on_ask.nd rfl (Or.inl rfl)) (pgs_cons (pg_name (i := 5) sc_on_ask.nd rfl (Or.inl rfl)) pgs_nil))))) (pss_cons (ps_set (i := 6) sc_on_ask.nd rfl (Or.inl rfl) (pe_ifExp (pt_cmpR (op_neX hr) (pe_fld (pv 0) rfl) (pe_lst pa_nil) (nomark _)) (pe_bm PySem.F.plainAttrs_list PySem.F.slot_list_pop PySem.F.type_list_pop mt_popX (pe_fld (pv 0) rfl) (pa_cons pe_int pa_nil)) pe_int)) (pss_one (ps_dput (hu_of hr) (pe_fld (pv 1) rfl) (pv 3) (pe_op op_addX (pv 4) (pe_op op_modN (pe_op op_sub (pv 6) (pv 4)) (pe_op op_addX (pe_op op_sub (pv 5) (pv 4)) pe_int))) rfl))))
theorem sc_on_tell : FnScope N_on_tell ["machine", "frame", "row"] (defScope s_on_tell) := ⟨rfl, rfl, rfl, by decide +kernel, rfl, by decide +kernel, by decide +kernel⟩
theorem ok_on_tell (F : Facts K mg w) : C8.Cal P w K mg base 1 "on_tell" (sp_on_tell K w) [] := by
  refine calX F.g_on_tell F.d_on_tell sc_on_tell (bindsX F.d_on_tell (fun _ _ _ _ _ _ us hl => match us, hl with | [_, _, _], _ => rfl)) (fun hr => ?_)
  exact (pss_one (ps_expr (pe_bm PySem.F.plainAttrs_list PySem.F.slot_list_append PySem.F.type_list_append mt_append (pe_fld (pv 0) rfl) (pa_cons (pe_dget (hu_of hr) (pe_fld (pv 1) rfl) (pe_ix ix_seq (pe_ix ix_seq (pv 2) pe_int (fun _ _ => rfl)) pe_int (fun _ _ => rfl)) (fun _ _ => rfl)) pa_nil))))
theorem sc_on_check : FnScope N_on_check ["machine", "frame", "row"] (defScope s_on_check) := ⟨rfl, rfl, rfl, by decide +kernel, rfl, by decide +kernel, by decide +kernel⟩
theorem ok_on_check (F : Facts K mg w) : C8.Cal P w K mg base 3 "on_check" (sp_on_check K w) [] := by
  refine calX F.g_on_check F.d_on_check sc_on_check (bindsX F.d_on_check (fun _ _ _ _ _ _ us hl => match us, hl with | [_, _, _], _ => rfl)) (fun hr => ?_)
  exact (pss_cons (ps_asg (pe_ix ix_seq (pv 2) pe_int (fun _ _ => rfl)) (pg_tup rfl (pgs_cons (pg_name (i := 3) sc_on_check.nd rfl (Or.inl rfl)) (pgs_cons (pg_name (i := 4) sc_on_check.nd rfl (Or.inl rfl)) (pgs_cons (pg_name (i := 5) sc_on_check.nd rfl (Or.inl rfl)) pgs_nil))))) (pss_one (ps_expr (C8.pe_mt (mt_Machine_fails F) hr (by decide) (pv 0) (pa_cons (pv 2) (pa_cons (pe_not (C8.pe_c (ok_is_so F) hr (by decide) rfl (pa_cons (pv 3) (pa_cons (pv 4) (pa_cons (pv 5) (pa_cons (pe_fld (pv 1) rfl) pa_nil)))))) pa_nil))))))
theorem sc_on_if : FnScope N_on_if ["machine", "frame", "row"] (defScope s_on_if) := ⟨rfl, rfl, rfl, by decide +kernel, rfl, by decide +kernel, by decide +kernel⟩
theorem ok_on_if (F : Facts K mg w) : C8.Cal P w K mg base 3 "on_if" (sp_on_if K w) [] := by
  refine calX F.g_on_if F.d_on_if sc_on_if (bindsX F.d_on_if (fun _ _ _ _ _ _ us hl => match us, hl with | [_, _, _], _ => rfl)) (fun hr => ?_)
  exact (pss_cons (ps_asg (pe_ix ix_seq (pv 2) pe_int (fun _ _ => rfl)) (pg_tup rfl (pgs_cons (pg_name (i := 3) sc_on_if.nd rfl (Or.inl rfl)) (pgs_cons (pg_name (i := 4) sc_on_if.nd rfl (Or.inl rfl)) (pgs_cons (pg_name (i := 5) sc_on_if.nd rfl (Or.inl rfl)) (pgs_cons (pg_name (i := 6) sc_on_if.nd rfl (Or.inl rfl)) pgs_nil)))))) (pss_one (ps_if (pt_val (C8.pe_c (ok_is_so F) hr (by decide) rfl (pa_cons (pv 3) (pa_cons (pv 4) (pa_cons (pv 5) (pa_cons (pe_fld (pv 1) rfl) pa_nil)))))) (pss_one (ps_fld (pv 1) (pv 6) rfl)) pss_nil)))
theorem sc_on_go : FnScope N_on_go ["machine", "frame", "row"] (defScope s_on_go) := ⟨rfl, rfl, rfl, by decide +kernel, rfl, by decide +kernel, by decide +kernel⟩
theorem ok_on_go (F : Facts K mg w) : C8.Cal P w K mg base 1 "on_go" (sp_on_go K w) [] := by
  refine calX F.g_on_go F.d_on_go sc_on_go (bindsX F.d_on_go (fun _ _ _ _ _ _ us hl => match us, hl with | [_, _, _], _ => rfl)) (fun hr => ?_)
  exact (pss_one (ps_fld (pv 1) (pe_ix ix_seq (pe_ix ix_seq (pv 2) pe_int (fun _ _ => rfl)) pe_int (fun _ _ => rfl)) rfl))
theorem sc_on_call : FnScope N_on_call ["machine", "frame", "row"] (defScope s_on_call) := ⟨rfl, rfl, rfl, by decide +kernel, rfl, by decide +kernel, by decide +kernel⟩
theorem ok_on_call (F : Facts K mg w) : C8.Cal P w K mg base 3 "on_call" (sp_on_call K w) [] := by
  refine calX F.g_on_call F.d_on_call sc_on_call (bindsX F.d_on_call (fun _ _ _ _ _ _ us hl => match us, hl with | [_, _, _], _ => rfl)) (fun hr => ?_)
  exact (pss_cons (ps_asg (pe_ix ix_seq (pv 2) pe_int (fun _ _ => rfl)) (pg_tup rfl (pgs_cons (pg_name (i := 3) sc_on_call.nd rfl (Or.inl rfl)) (pgs_cons (pg_name (i := 4) sc_on_call.nd rfl (Or.inl rfl)) (pgs_cons (pg_name (i := 5) sc_on_call.nd rfl (Or.inl rfl)) pgs_nil))))) (pss_cons (ps_if (pt_cmpR op_gt (pe_callB call_lenX rfl F.n_len (by decide +kernel) (pa_cons (pe_fld (pv 0) rfl) pa_nil)) (C8.pe_gc rfl F.c_MOST_OPEN) (nomark _)) (pss_cons (ps_fld (pv 0) (pe_tup (pa_cons pe_str (pa_cons pe_str (pa_cons (pe_ix ix_seq (pv 2) pe_int (fun _ _ => rfl)) pa_nil)))) rfl) (pss_one ps_retN)) pss_nil) (pss_cons (ps_set (i := 6) sc_on_call.nd rfl (Or.inl rfl) (pe_ix ix_seq (pe_fld (pv 0) rfl) (pv 4) (fun _ _ => rfl))) (pss_cons (ps_set (i := 7) sc_on_call.nd rfl (Or.inl rfl) (C8.pe_mk (mk_Frame F) hr (by decide) rfl (pa_cons (pv 6) (pa_cons (pe_fld (pv 0) rfl) pa_nil)))) (pss_cons (ps_for PassesOwn.never rfl (pi_zipX (by rfl) F.n_zip (pa_cons (pe_ix ix_seq (pv 6) pe_int (fun _ _ => rfl)) (pa_cons (pv 5) pa_nil))) (pg_tup rfl (pgs_cons (pg_name (i := 8) sc_on_call.nd rfl (Or.inl rfl)) (pgs_cons (pg_name (i := 9) sc_on_call.nd rfl (Or.inl rfl)) pgs_nil))) (pss_one (ps_if (pt_cmp (pc_din (hu_of hr) (pv 9) (pe_fld (pv 1) rfl))) (pss_one (ps_dput (hu_of hr) (pe_fld (pv 7) rfl) (pv 8) (C8.pe_mt (mt_Machine_laid F) hr (by decide) (pv 0) (pa_cons (C8.pe_mt (mt_Machine_cells F) hr (by decide) (pv 0) (pa_cons (pe_dget (hu_of hr) (pe_fld (pv 1) rfl) (pv 9) (fun _ _ => rfl)) pa_nil)) pa_nil)) rfl)) (pss_one (ps_dput (hu_of hr) (pe_fld (pv 7) rfl) (pv 8) (pe_dget (hu_of hr) (pe_fld (pv 1) rfl) (pv 9) (fun _ _ => rfl)) rfl))))) (pss_one (ps_expr (pe_bm PySem.F.plainAttrs_list PySem.F.slot_list_append PySem.F.type_list_append mt_append (pe_fld (pv 0) rfl) (pa_cons (pv 7) pa_nil)))))))))
theorem sc_on_back : FnScope N_on_back ["machine", "frame", "row"] (defScope s_on_back) := ⟨rfl, rfl, rfl, by decide +kernel, rfl, by decide +kernel, by decide +kernel⟩
theorem ok_on_back (F : Facts K mg w) : C8.Cal P w K mg base 1 "on_back" (sp_on_back K w) [] := by
  refine calX F.g_on_back F.d_on_back sc_on_back (bindsX F.d_on_back (fun _ _ _ _ _ _ us hl => match us, hl with | [_, _, _], _ => rfl)) (fun hr => ?_)
  exact (pss_cons (ps_set (i := 3) sc_on_back.nd rfl (Or.inl rfl) (pe_dget (hu_of hr) (pe_fld (pv 1) rfl) (pe_ix ix_seq (pe_ix ix_seq (pv 2) pe_int (fun _ _ => rfl)) pe_int (fun _ _ => rfl)) (fun _ _ => rfl))) (pss_cons (ps_expr (pe_bm0 PySem.F.plainAttrs_list PySem.F.slot_list_pop PySem.F.type_list_pop mt_popX (pe_fld (pv 0) rfl))) (pss_cons (ps_fld (pv 0) (pe_fld (pv 1) rfl) rfl) (pss_one (ps_if (pt_cmpR (op_eqX hr) (pe_fld (pv 0) rfl) (pe_lst pa_nil) (nomark _)) (pss_one (ps_fld (pv 0) (pe_tup (pa_cons pe_str (pa_cons (pv 3) pa_nil))) rfl)) (pss_cons (ps_set (i := 4) sc_on_back.nd rfl (Or.inl rfl) (pe_ix ix_seq (pe_fld (pv 0) rfl) (pe_un un_neg pe_int) (fun _ _ => rfl))) (pss_cons (ps_set (i := 5) sc_on_back.nd rfl (Or.inl rfl) (pe_ix ix_seq (pe_fld (pv 0) rfl) (pe_op op_sub (pe_fld (pv 4) rfl) pe_int) (fun _ _ => rfl))) (pss_one (ps_dput (hu_of hr) (pe_fld (pv 4) rfl) (pe_ix ix_seq (pe_ix ix_seq (pv 5) pe_int (fun _ _ => rfl)) pe_int (fun _ _ => rfl)) (pv 3) rfl)))))))))
theorem doing_ok (F : Facts K mg w) : ∀ f sp, Doing K w f sp → C8.CalAt P w K mg base 3 f sp := by
  intro f sp h
  unfold Doing at h
  rcases h with ⟨rfl, rfl⟩ | ⟨rfl, rfl⟩ | ⟨rfl, rfl⟩ | ⟨rfl, rfl⟩ | ⟨rfl, rfl⟩ | ⟨rfl, rfl⟩ | ⟨rfl, rfl⟩ | ⟨rfl, rfl⟩ | ⟨rfl, rfl⟩ | ⟨rfl, rfl⟩ | ⟨rfl, rfl⟩ | ⟨rfl, rfl⟩ | ⟨rfl, rfl⟩ | ⟨rfl, rfl⟩ | ⟨rfl, rfl⟩
  · exact calAt_of (ok_on_set F) F.g_on_set
  · exact calAt_of (ok_on_sum F) F.g_on_sum
  · exact calAt_of (ok_on_over F) F.g_on_over
  · exact calAt_of (ok_on_mid F) F.g_on_mid
  · exact calAt_of (ok_on_row F) F.g_on_row
  · exact calAt_of (ok_on_get F) F.g_on_get
  · exact calAt_of (ok_on_put F) F.g_on_put
  · exact calAt_of (ok_on_length F) F.g_on_length
  · exact calAt_of (ok_on_ask F) F.g_on_ask
  · exact calAt_of (ok_on_tell F) F.g_on_tell
  · exact calAt_of (ok_on_check F) F.g_on_check
  · exact calAt_of (ok_on_if F) F.g_on_if
  · exact calAt_of (ok_on_go F) F.g_on_go
  · exact calAt_of (ok_on_call F) F.g_on_call
  · exact calAt_of (ok_on_back F) F.g_on_back
theorem sc_Machine_step : FnScope N_Machine_step ["self"] (defScope s_Machine_step) := ⟨rfl, rfl, rfl, by decide +kernel, rfl, by decide +kernel, by decide +kernel⟩
theorem mt_Machine_step (F : Facts K mg w) : C8.Met P w K mg base 4 (He.ga K "Machine") "step" (sp_Machine_step K w) [] := by
  refine metX F.cl_Machine F.mt_Machine_step F.d_Machine_step sc_Machine_step (bindsX F.d_Machine_step (fun _ _ _ _ _ _ us hl => match us, hl with | [_], _ => rfl)) (fun hr => ?_)
  exact (pss_cons (ps_set (i := 1) sc_Machine_step.nd rfl (Or.inl rfl) (pe_ix ix_seq (pe_fld (pv 0) rfl) (pe_un un_neg pe_int) (fun _ _ => rfl))) (pss_cons (ps_set (i := 2) sc_Machine_step.nd rfl (Or.inl rfl) (pe_ix ix_seq (pe_fld (pv 0) rfl) (pe_fld (pv 1) rfl) (fun _ _ => rfl))) (pss_cons (ps_if (pt_cmpR (op_eqX hr) (pe_fld (pv 0) rfl) (pe_fld (pv 0) rfl) (nomark _)) (pss_cons (ps_fld (pv 0) (pe_tup (pa_cons pe_str (pa_cons pe_str (pa_cons (pe_ix ix_seq (pv 2) pe_int (fun _ _ => rfl)) pa_nil)))) rfl) (pss_one ps_retN)) pss_nil) (pss_cons (ps_fldaug (pv 0) pe_int in_add) (pss_cons (ps_fld (pv 1) (pe_ix ix_seq (pv 2) pe_int (fun _ _ => rfl)) rfl) (pss_cons (ps_set (i := 3) sc_Machine_step.nd rfl (Or.inl rfl) (pe_ix ix_kdict (pe_glob rfl F.g_DOINGS rfl) (pe_ix ix_seq (pv 2) pe_int (fun _ _ => rfl)) (fun _ _ => rfl))) (pss_one (ps_expr (pe_callX (doing_ok F) hr (by decide) rfl (Or.inl rfl) (pa_cons (pv 0) (pa_cons (pv 1) (pa_cons (pv 2) pa_nil))))))))))))
theorem sc_run_rows : FnScope N_run_rows ["rows", "words", "steps"] (defScope s_run_rows) := ⟨rfl, rfl, rfl, by decide +kernel, rfl, by decide +kernel, by decide +kernel⟩
theorem fo_run_rows {fd : FuncData} (F : Facts K mg w) (FD : FunD K "run_rows" "run_rows" (defArgs s_run_rows) (defBody s_run_rows) (defScope s_run_rows) (H72.d_run_rows.dvs K) (H72.d_run_rows.kws K) (He.ga K "run_rows") fd) : FnOk P w K mg base CX0 5 (He.ga K "run_rows") fd ["rows", "words", "steps"] (sp_run_rows K w) := by
  refine foX FD sc_run_rows (fun hr => ?_)
  exact (pss_cons (ps_set (i := 3) sc_run_rows.nd rfl (Or.inl rfl) (C8.pe_mk (mk_Machine F) hr (by decide) rfl (pa_cons (pv 0) (pa_cons (pv 1) (pa_cons (pv 2) pa_nil))))) (pss_cons (ps_while PassesOwn.never (pt_cmpR op_isN (pe_fld (pv 3) rfl) pe_non (nomark _)) (pss_one (ps_expr (C8.pe_mt0 (mt_Machine_step F) hr (by decide) (pv 3))))) (pss_one (ps_ret (pe_tup (pa_cons (pe_callTy call_tupX rfl F.n_tuple (by decide +kernel) (pa_cons (pe_fld (pv 3) rfl) pa_nil)) (pa_cons (pe_fld (pv 3) rfl) (pa_cons (pe_fld (pv 3) rfl) (pa_cons (pe_fld (pv 3) rfl) pa_nil)))))))))
theorem sc__law_tape : FnScope N__law_tape ["script", "k"] (defScope s__law_tape) := ⟨rfl, rfl, rfl, by decide +kernel, rfl, by decide +kernel, by decide +kernel⟩
theorem ok__law_tape (F : Facts K mg w) : C8.Cal P w K mg base 1 "_law_tape" (sp__law_tape K w) [] := by
  refine calX F.g__law_tape F.d__law_tape sc__law_tape (bindsX F.d__law_tape (fun _ _ _ _ _ _ us hl => match us, hl with | [_, _], _ => rfl)) (fun hr => ?_)
  exact (pss_cons (ps_set (i := 2) sc__law_tape.nd rfl (Or.inl rfl) (pe_op op_addX (pe_op op_mulX pe_int (pv 1)) pe_int)) (C8.pss_cut (ps_if (pt_cmpR op_lt (pv 1) (pe_callB call_lenX rfl F.n_len (by decide +kernel) (pa_cons (pv 0) pa_nil)) (nomark _)) (pss_one (ps_set (i := 2) sc__law_tape.nd rfl (Or.inl rfl) (pe_ix ix_seq (pv 0) (pv 1) (fun _ _ => rfl)))) pss_nil) (pss_cons (ps_set (i := 3) sc__law_tape.nd rfl (Or.inl rfl) pe_int) (C8.pss_cut (ps_if (pt_cmpR op_ge (pv 2) (pe_op op_pow pe_int pe_int) (nomark _)) (pss_one (ps_set (i := 3) sc__law_tape.nd rfl (Or.inl rfl) (pe_op op_sub (pv 2) (pe_op op_pow pe_int pe_int)))) pss_nil) (pss_one (ps_ret (pe_lst (pa_cons (pv 3) (pa_cons (pe_op op_addX (pe_op op_modN (pv 2) pe_int) (pe_op op_mulX pe_int (pv 1))) (pa_cons pe_int pa_nil))))))))))
theorem sc__law_draw : FnScope N__law_draw ["tape", "many"] (defScope s__law_draw) := ⟨rfl, rfl, rfl, by decide +kernel, rfl, by decide +kernel, by decide +kernel⟩
theorem ok__law_draw (F : Facts K mg w) : C8.Cal P w K mg base 1 "_law_draw" (sp__law_draw K w) [] := by
  refine calX F.g__law_draw F.d__law_draw sc__law_draw (bindsX F.d__law_draw (fun _ _ _ _ _ _ us hl => match us, hl with | [_, _], _ => rfl)) (fun hr => ?_)
  exact (pss_cons (ps_if (pt_cmpR op_ge (pe_ix ix_seq (pv 0) pe_int (fun _ _ => rfl)) (pv 1) (nomark _)) (pss_cons (ps_set (i := 2) sc__law_draw.nd rfl (Or.inl rfl) (pe_op op_modN (pe_ix ix_seq (pv 0) pe_int (fun _ _ => rfl)) (pv 1))) (pss_cons (ps_asg (pe_op op_fdvX (pe_ix ix_seq (pv 0) pe_int (fun _ _ => rfl)) (pv 1)) (pg_sub (pv 0) pe_int set_list)) (pss_one (ps_ret (pv 2))))) pss_nil) (pss_cons (ps_asg (pe_op op_addX (pe_ix ix_seq (pv 0) pe_int (fun _ _ => rfl)) pe_int) (pg_sub (pv 0) pe_int set_list)) (pss_cons (ps_set (i := 3) sc__law_draw.nd rfl (Or.inl rfl) (pe_lst (pa_cons pe_int (pa_cons pe_int (pa_cons pe_int (pa_cons pe_int (pa_cons pe_int (pa_cons pe_int (pa_cons pe_int (pa_cons pe_int pa_nil)))))))))) (pss_cons (ps_set (i := 4) sc__law_draw.nd rfl (Or.inl rfl) (pe_ix ix_seq (pv 3) (pe_op op_modN (pe_ix ix_seq (pv 0) pe_int (fun _ _ => rfl)) pe_int) (fun _ _ => rfl))) (pss_cons (ps_set (i := 5) sc__law_draw.nd rfl (Or.inl rfl) (pe_op op_addX (pe_op op_mulX (pe_op op_modN (pe_ix ix_seq (pv 0) pe_int (fun _ _ => rfl)) (pv 4)) (pe_op op_addX (pe_op op_mulX pe_int (pe_ix ix_seq (pv 0) pe_int (fun _ _ => rfl))) pe_int)) (pe_op op_mulX pe_int (pe_ix ix_seq (pv 0) pe_int (fun _ _ => rfl))))) (pss_cons (ps_set (i := 5) sc__law_draw.nd rfl (Or.inl rfl) (pe_op op_modN (pe_op op_pow (pv 5) pe_int) (pv 4))) (pss_cons (ps_set (i := 6) sc__law_draw.nd rfl (Or.inl rfl) (pe_op op_addX (pe_op op_addX (pe_op op_mulX (pv 5) (pv 5)) (pe_op op_modN (pe_ix ix_seq (pv 0) pe_int (fun _ _ => rfl)) pe_int)) (pe_ix ix_seq (pv 0) pe_int (fun _ _ => rfl)))) (pss_one (ps_ret (pe_op op_modN (pe_op op_fdvX (pe_op op_modN (pe_op op_pow (pv 6) pe_int) (pe_ix ix_seq (pv 3) (pe_op op_modN (pe_op op_addX (pe_ix ix_seq (pv 0) pe_int (fun _ _ => rfl)) pe_int) pe_int) (fun _ _ => rfl))) pe_int) (pv 1)))))))))))
theorem sc__law_pick : FnScope N__law_pick ["tape", "some"] (defScope s__law_pick) := ⟨rfl, rfl, rfl, by decide +kernel, rfl, by decide +kernel, by decide +kernel⟩
theorem ok__law_pick (F : Facts K mg w) : C8.Cal P w K mg base 2 "_law_pick" (sp__law_pick K w) [] := by
  refine calX F.g__law_pick F.d__law_pick sc__law_pick (bindsX F.d__law_pick (fun _ _ _ _ _ _ us hl => match us, hl with | [_, _], _ => rfl)) (fun hr => ?_)
  exact (pss_one (ps_ret (pe_ix ix_seq (pv 1) (C8.pe_c (ok__law_draw F) hr (by decide) rfl (pa_cons (pv 0) (pa_cons (pe_callB call_lenX rfl F.n_len (by decide +kernel) (pa_cons (pv 1) pa_nil)) pa_nil))) (fun _ _ => rfl))))
theorem sc__law_a_word : FnScope N__law_a_word ["tape", "wide"] (defScope s__law_a_word) := ⟨rfl, rfl, rfl, by decide +kernel, rfl, by decide +kernel, by decide +kernel⟩
theorem ok__law_a_word (F : Facts K mg w) : C8.Cal P w K mg base 3 "_law_a_word" (sp__law_a_word K w) [] := by
  refine calX F.g__law_a_word F.d__law_a_word sc__law_a_word (bindsX F.d__law_a_word (fun _ _ _ _ _ _ us hl => match us, hl with | [_, _], _ => rfl)) (fun hr => ?_)
  exact (pss_cons (ps_set (i := 2) sc__law_a_word.nd rfl (Or.inl rfl) (pe_lst (pa_cons pe_int (pa_cons pe_int (pa_cons (pe_op op_sub pe_int pe_int) (pa_cons (pv 1) (pa_cons (pe_op op_sub pe_int (pv 1)) (pa_cons (pe_op op_sub (C8.pe_c (ok__law_draw F) hr (by decide) rfl (pa_cons (pv 0) (pa_cons (pe_op op_addX (pe_op op_mulX pe_int (pv 1)) pe_int) pa_nil))) (pv 1)) (pa_cons (C8.pe_c (ok__law_draw F) hr (by decide) rfl (pa_cons (pv 0) (pa_cons (pe_op op_addX (pv 1) pe_int) pa_nil))) pa_nil))))))))) (pss_one (ps_ret (C8.pe_c (ok__law_pick F) hr (by decide) rfl (pa_cons (pv 0) (pa_cons (pv 2) pa_nil))))))
theorem sc__law_head : FnScope N__law_head ["tape", "k"] (defScope s__law_head) := ⟨rfl, rfl, rfl, by decide +kernel, rfl, by decide +kernel, by decide +kernel⟩
theorem ok__law_head (F : Facts K mg w) : C8.Cal P w K mg base 3 "_law_head" (sp__law_head K w) [] := by
  refine calX F.g__law_head F.d__law_head sc__law_head (bindsX F.d__law_head (fun _ _ _ _ _ _ us hl => match us, hl with | [_, _], _ => rfl)) (fun hr => ?_)
  exact (pss_cons (ps_set (i := 2) sc__law_head.nd rfl (Or.inl rfl) (pe_disp (pps_cons pe_str (pe_ix ix_seq (pe_lst (pa_cons pe_str (pa_cons pe_str (pa_cons pe_str pa_nil)))) (pv 1) (fun _ _ => rfl)) (pps_cons pe_str (pe_slice sl_X (pe_lst (pa_cons pe_str (pa_cons pe_str (pa_cons pe_str pa_nil)))) po_none (po_some (pe_op op_addX pe_int (C8.pe_c (ok__law_draw F) hr (by decide) rfl (pa_cons (pv 0) (pa_cons pe_int pa_nil)))))) pps_nil)) (by rfl) (by rfl) (fun z => by cases z) (by decide))) (pss_cons (ps_dput (hu_of hr) (pv 2) pe_str (pe_slice sl_X (pe_lst (pa_cons pe_str (pa_cons pe_str pa_nil))) po_none (po_some (C8.pe_c (ok__law_draw F) hr (by decide) rfl (pa_cons (pv 0) (pa_cons pe_int pa_nil))))) rfl) (pss_cons (ps_dput (hu_of hr) (pv 2) pe_str (pe_slice sl_X (pe_lst (pa_cons pe_str (pa_cons pe_str pa_nil))) po_none (po_some (C8.pe_c (ok__law_pick F) hr (by decide) rfl (pa_cons (pv 0) (pa_cons (pe_lst (pa_cons pe_int (pa_cons pe_int (pa_cons pe_int (pa_cons pe_int (pa_cons pe_int pa_nil)))))) pa_nil))))) rfl) (pss_cons (ps_dput (hu_of hr) (pv 2) pe_str (pe_lst pa_nil) rfl) (C8.pss_cut (ps_if (pt_cmpR op_gt (pv 1) pe_int (nomark _)) (pss_cons (ps_set (i := 3) sc__law_head.nd rfl (Or.inl rfl) (pe_op op_addX (pe_op op_addX (pe_dget (hu_of hr) (pv 2) pe_str (fun _ _ => rfl)) (pe_dget (hu_of hr) (pv 2) pe_str (fun _ _ => rfl))) (pe_dget (hu_of hr) (pv 2) pe_str (fun _ _ => rfl)))) (pss_one (ps_while PassesOwn.never (PW.pt (pw_and (pt_cmpR (op_neX hr) (pv 3) (pe_lst pa_nil) (nomark _)) (pw_and1 (pt_cmpR op_gt (C8.pe_c (ok__law_draw F) hr (by decide) rfl (pa_cons (pv 0) (pa_cons pe_int pa_nil))) pe_int (nomark _))))) (pss_one (ps_expr (pe_bm PySem.F.plainAttrs_list PySem.F.slot_list_append PySem.F.type_list_append mt_append (pe_dget (hu_of hr) (pv 2) pe_str (fun _ _ => rfl)) (pa_cons (pe_bm PySem.F.plainAttrs_list PySem.F.slot_list_pop PySem.F.type_list_pop mt_popX (pv 3) (pa_cons (C8.pe_c (ok__law_draw F) hr (by decide) rfl (pa_cons (pv 0) (pa_cons (pe_callB call_lenX rfl F.n_len (by decide +kernel) (pa_cons (pv 3) pa_nil)) pa_nil))) pa_nil)) pa_nil))))))) pss_nil) (pss_one (ps_ret (pv 2))))))))
theorem sc__law_numbers : FnScope N__law_numbers ["head"] (defScope s__law_numbers) := ⟨rfl, rfl, rfl, by decide +kernel, rfl, by decide +kernel, by decide +kernel⟩
theorem ok__law_numbers (F : Facts K mg w) : C8.Cal P w K mg base 1 "_law_numbers" (sp__law_numbers K w) [] := by
  refine calX F.g__law_numbers F.d__law_numbers sc__law_numbers (bindsX F.d__law_numbers (fun _ _ _ _ _ _ us hl => match us, hl with | [_], _ => rfl)) (fun hr => ?_)
  exact (pss_one (ps_ret (pe_op op_addX (pe_dget (hu_of hr) (pv 0) pe_str (fun _ _ => rfl)) (pe_dget (hu_of hr) (pv 0) pe_str (fun _ _ => rfl)))))
theorem sc__law_a_side : FnScope N__law_a_side ["tape", "head", "wide"] (defScope s__law_a_side) := ⟨rfl, rfl, rfl, by decide +kernel, rfl, by decide +kernel, by decide +kernel⟩
theorem ok__law_a_side (F : Facts K mg w) : C8.Cal P w K mg base 4 "_law_a_side" (sp__law_a_side K w) [] := by
  refine calX F.g__law_a_side F.d__law_a_side sc__law_a_side (bindsX F.d__law_a_side (fun _ _ _ _ _ _ us hl => match us, hl with | [_, _, _], _ => rfl)) (fun hr => ?_)
  exact (pss_one (ps_ret (C8.pe_c (ok__law_pick F) hr (by decide) rfl (pa_cons (pv 0) (pa_cons (pe_lst (pa_cons (C8.pe_c (ok__law_pick F) hr (by decide) rfl (pa_cons (pv 0) (pa_cons (C8.pe_c (ok__law_numbers F) hr (by decide) rfl (pa_cons (pv 1) pa_nil)) pa_nil))) (pa_cons (C8.pe_c (ok__law_pick F) hr (by decide) rfl (pa_cons (pv 0) (pa_cons (C8.pe_c (ok__law_numbers F) hr (by decide) rfl (pa_cons (pv 1) pa_nil)) pa_nil))) (pa_cons (C8.pe_c (ok__law_a_word F) hr (by decide) rfl (pa_cons (pv 0) (pa_cons (pv 2) pa_nil))) pa_nil)))) pa_nil)))))
theorem sc__law_test : FnScope N__law_test ["tape", "head", "wide"] (defScope s__law_test) := ⟨rfl, rfl, rfl, by decide +kernel, rfl, by decide +kernel, by decide +kernel⟩
theorem ok__law_test (F : Facts K mg w) : C8.Cal P w K mg base 5 "_law_test" (sp__law_test K w) [] := by
  refine calX F.g__law_test F.d__law_test sc__law_test (bindsX F.d__law_test (fun _ _ _ _ _ _ us hl => match us, hl with | [_, _, _], _ => rfl)) (fun hr => ?_)
  exact (pss_one (ps_ret (pe_tup (pa_cons (C8.pe_c (ok__law_a_side F) hr (by decide) rfl (pa_cons (pv 0) (pa_cons (pv 1) (pa_cons (pv 2) pa_nil)))) (pa_cons (C8.pe_c (ok__law_pick F) hr (by decide) rfl (pa_cons (pv 0) (pa_cons (pe_lst (pa_cons pe_str (pa_cons pe_str pa_nil))) pa_nil))) (pa_cons (C8.pe_c (ok__law_a_side F) hr (by decide) rfl (pa_cons (pv 0) (pa_cons (pv 1) (pa_cons (pv 2) pa_nil)))) pa_nil))))))
theorem sc__law_kind : FnScope N__law_kind ["head", "name"] (defScope s__law_kind) := ⟨rfl, rfl, rfl, by decide +kernel, rfl, by decide +kernel, by decide +kernel⟩
theorem ok__law_kind (F : Facts K mg w) : C8.Cal P w K mg base 1 "_law_kind" (sp__law_kind K w) [] := by
  refine calX F.g__law_kind F.d__law_kind sc__law_kind (bindsX F.d__law_kind (fun _ _ _ _ _ _ us hl => match us, hl with | [_, _], _ => rfl)) (fun hr => ?_)
  exact (pss_one (ps_ret (pe_ix ix_seq (pe_lc (own := [("kind", 2)]) rfl sc__law_kind.nd (pi_seqX (pe_lst (pa_cons pe_str (pa_cons pe_str (pa_cons pe_str pa_nil))))) (blkOk_by (own := [("kind", 2)]) (N := N__law_kind) (sc := defScope s__law_kind) (by decide +kernel)) (fun _ _ _ _ _ => (pg_name (i := 2) sc__law_kind.nd rfl (Or.inl rfl))) (fun _ _ _ _ _ => (pts_one (pt_cmpR (op_inX hr) (pv 1) (pe_dget (hu_of hr) (pv 0) (pv 2) (fun _ _ => rfl)) (by with_unfolding_all rfl)))) (fun _ _ _ _ _ => (pv 2))) pe_int (fun _ _ => rfl))))
theorem sc__law_call : FnScope N__law_call ["tape", "head", "other"] (defScope s__law_call) := ⟨rfl, rfl, rfl, by decide +kernel, rfl, by decide +kernel, by decide +kernel⟩
theorem ok__law_call (F : Facts K mg w) : C8.Cal P w K mg base 3 "_law_call" (sp__law_call K w) [] := by
  refine calX F.g__law_call F.d__law_call sc__law_call (bindsX F.d__law_call (fun _ _ _ _ _ _ us hl => match us, hl with | [_, _, _], _ => rfl)) (fun hr => ?_)
  exact (pss_cons (ps_set (i := 3) sc__law_call.nd rfl (Or.inl rfl) (pe_lst pa_nil)) (pss_cons (ps_for PassesOwn.never rfl (pi_seqX (pe_dget (hu_of hr) (pv 2) pe_str (fun _ _ => rfl))) (pg_name (i := 4) sc__law_call.nd rfl (Or.inl rfl)) (pss_cons (ps_set (i := 5) sc__law_call.nd rfl (Or.inl rfl) (C8.pe_c (ok__law_kind F) hr (by decide) rfl (pa_cons (pv 2) (pa_cons (pv 4) pa_nil)))) (pss_cons (ps_set (i := 6) sc__law_call.nd rfl (Or.inl rfl) (pe_ix ix_seq (pe_lst (pa_cons (pe_dget (hu_of hr) (pv 1) (pv 5) (fun _ _ => rfl)) (pa_cons (C8.pe_c (ok__law_numbers F) hr (by decide) rfl (pa_cons (pv 1) pa_nil)) pa_nil))) (pe_callTy call_int1 rfl F.n_int (by decide +kernel) (pa_cons (pe_cmpR (op_eqX hr) (pv 5) pe_str (nomark _)) pa_nil)) (fun _ _ => rfl))) (pss_cons (ps_if (pt_cmpR (op_eqX hr) (pv 6) (pe_lst pa_nil) (nomark _)) (pss_one (ps_ret (pe_tup (pa_cons pe_str (pa_cons (pe_ix ix_seq (pe_dget (hu_of hr) (pv 1) pe_str (fun _ _ => rfl)) pe_int (fun _ _ => rfl)) pa_nil))))) pss_nil) (pss_one (ps_expr (pe_bm PySem.F.plainAttrs_list PySem.F.slot_list_append PySem.F.type_list_append mt_append (pv 3) (pa_cons (C8.pe_c (ok__law_pick F) hr (by decide) rfl (pa_cons (pv 0) (pa_cons (pv 6) pa_nil))) pa_nil)))))))) (pss_one (ps_ret (pe_tup (pa_cons pe_str (pa_cons (C8.pe_c (ok__law_pick F) hr (by decide) rfl (pa_cons (pv 0) (pa_cons (pe_dget (hu_of hr) (pv 1) pe_str (fun _ _ => rfl)) pa_nil))) (pa_cons (pe_dget (hu_of hr) (pv 2) pe_str (fun _ _ => rfl)) (pa_cons (pe_callTy call_tupX rfl F.n_tuple (by decide +kernel) (pa_cons (pv 3) pa_nil)) pa_nil)))))))))
theorem sc__law_row_act : FnScope N__law_row_act ["tape", "head", "wide"] (defScope s__law_row_act) := ⟨rfl, rfl, rfl, by decide +kernel, rfl, by decide +kernel, by decide +kernel⟩
theorem ok__law_row_act (F : Facts K mg w) : C8.Cal P w K mg base 3 "_law_row_act" (sp__law_row_act K w) [] := by
  refine calX F.g__law_row_act F.d__law_row_act sc__law_row_act (bindsX F.d__law_row_act (fun _ _ _ _ _ _ us hl => match us, hl with | [_, _, _], _ => rfl)) (fun hr => ?_)
  exact (pss_cons (ps_par (i := 3) (j := 4) rfl sc__law_row_act.nd rfl rfl (by decide) rfl rfl (pa_cons (C8.pe_c (ok__law_pick F) hr (by decide) rfl (pa_cons (pv 0) (pa_cons (pe_dget (hu_of hr) (pv 1) pe_str (fun _ _ => rfl)) pa_nil))) (pa_cons (C8.pe_c (ok__law_pick F) hr (by decide) rfl (pa_cons (pv 0) (pa_cons (C8.pe_c (ok__law_numbers F) hr (by decide) rfl (pa_cons (pv 1) pa_nil)) pa_nil))) pa_nil)) (by rfl)) (pss_cons (ps_set (i := 5) sc__law_row_act.nd rfl (Or.inl rfl) (C8.pe_c (ok__law_pick F) hr (by decide) rfl (pa_cons (pv 0) (pa_cons (pe_op op_addX (pe_dget (hu_of hr) (pv 1) pe_str (fun _ _ => rfl)) (C8.pe_c (ok__law_numbers F) hr (by decide) rfl (pa_cons (pv 1) pa_nil))) pa_nil)))) (pss_cons (ps_set (i := 6) sc__law_row_act.nd rfl (Or.inl rfl) (C8.pe_c (ok__law_draw F) hr (by decide) rfl (pa_cons (pv 0) (pa_cons pe_int pa_nil)))) (pss_cons (ps_if (pt_cmpR (op_eqX hr) (pv 6) pe_int (nomark _)) (pss_one (ps_ret (pe_tup (pa_cons pe_str (pa_cons (pv 3) (pa_cons (pv 4) pa_nil)))))) pss_nil) (pss_cons (ps_if (pt_cmpR (op_eqX hr) (pv 6) pe_int (nomark _)) (pss_one (ps_ret (pe_tup (pa_cons pe_str (pa_cons (C8.pe_c (ok__law_pick F) hr (by decide) rfl (pa_cons (pv 0) (pa_cons (pe_op op_addX (pe_dget (hu_of hr) (pv 1) pe_str (fun _ _ => rfl)) (C8.pe_c (ok__law_numbers F) hr (by decide) rfl (pa_cons (pv 1) pa_nil))) pa_nil))) (pa_cons (pv 3) pa_nil)))))) pss_nil) (pss_cons (ps_if (pt_cmpR op_lt (pv 6) pe_int (nomark _)) (pss_one (ps_ret (pe_tup (pa_cons pe_str (pa_cons (C8.pe_c (ok__law_pick F) hr (by decide) rfl (pa_cons (pv 0) (pa_cons (pe_dget (hu_of hr) (pv 1) pe_str (fun _ _ => rfl)) pa_nil))) (pa_cons (pv 3) (pa_cons (pv 5) pa_nil))))))) pss_nil) (pss_one (ps_ret (pe_tup (pa_cons pe_str (pa_cons (pv 3) (pa_cons (pv 5) (pa_cons (pv 4) pa_nil)))))))))))))
theorem sc__law_finger_act : FnScope N__law_finger_act ["tape", "head", "wide"] (defScope s__law_finger_act) := ⟨rfl, rfl, rfl, by decide +kernel, rfl, by decide +kernel, by decide +kernel⟩
theorem ok__law_finger_act (F : Facts K mg w) : C8.Cal P w K mg base 4 "_law_finger_act" (sp__law_finger_act K w) [] := by
  refine calX F.g__law_finger_act F.d__law_finger_act sc__law_finger_act (bindsX F.d__law_finger_act (fun _ _ _ _ _ _ us hl => match us, hl with | [_, _, _], _ => rfl)) (fun hr => ?_)
  exact (pss_cons (ps_par (i := 3) (j := 4) rfl sc__law_finger_act.nd rfl rfl (by decide) rfl rfl (pa_cons (C8.pe_c (ok__law_pick F) hr (by decide) rfl (pa_cons (pv 0) (pa_cons (pe_dget (hu_of hr) (pv 1) pe_str (fun _ _ => rfl)) pa_nil))) (pa_cons (C8.pe_c (ok__law_pick F) hr (by decide) rfl (pa_cons (pv 0) (pa_cons (pe_dget (hu_of hr) (pv 1) pe_str (fun _ _ => rfl)) pa_nil))) pa_nil)) (by rfl)) (pss_cons (ps_set (i := 5) sc__law_finger_act.nd rfl (Or.inl rfl) (C8.pe_c (ok__law_draw F) hr (by decide) rfl (pa_cons (pv 0) (pa_cons pe_int pa_nil)))) (pss_cons (ps_if (pt_cmpR (op_eqX hr) (pv 5) pe_int (nomark _)) (pss_one (ps_ret (pe_tup (pa_cons pe_str (pa_cons (pv 3) (pa_cons (C8.pe_c (ok__law_a_word F) hr (by decide) rfl (pa_cons (pv 0) (pa_cons (pv 2) pa_nil))) pa_nil)))))) pss_nil) (pss_cons (ps_if (pt_cmpR (op_eqX hr) (pv 5) pe_int (nomark _)) (pss_one (ps_ret (pe_tup (pa_cons pe_str (pa_cons (pv 3) (pa_cons (pv 4) (pa_cons (C8.pe_c (ok__law_pick F) hr (by decide) rfl (pa_cons (pv 0) (pa_cons (pe_dget (hu_of hr) (pv 1) pe_str (fun _ _ => rfl)) pa_nil))) pa_nil))))))) pss_nil) (pss_one (ps_ret (pe_tup (pa_cons pe_str (pa_cons (pv 3) (pa_cons (pv 4) (pa_cons (C8.pe_c (ok__law_pick F) hr (by decide) rfl (pa_cons (pv 0) (pa_cons (pe_lst (pa_cons pe_int (pa_cons pe_int (pa_cons (pe_op op_sub pe_int pe_int) (pa_cons pe_int (pa_cons (C8.pe_c (ok__law_a_word F) hr (by decide) rfl (pa_cons (pv 0) (pa_cons (pv 2) pa_nil))) pa_nil)))))) pa_nil))) pa_nil)))))))))))
theorem sc__law_act : FnScope N__law_act ["tape", "head", "heads", "wide"] (defScope s__law_act) := ⟨rfl, rfl, rfl, by decide +kernel, rfl, by decide +kernel, by decide +kernel⟩
theorem ok__law_act (F : Facts K mg w) : C8.Cal P w K mg base 6 "_law_act" (sp__law_act K w) [] := by
  refine calX F.g__law_act F.d__law_act sc__law_act (bindsX F.d__law_act (fun _ _ _ _ _ _ us hl => match us, hl with | [_, _, _, _], _ => rfl)) (fun hr => ?_)
  exact (pss_cons (ps_par3 (i := 4) (j := 5) (l := 6) rfl sc__law_act.nd rfl rfl rfl (by decide) (by decide) (by decide) rfl rfl rfl (pa_cons (C8.pe_c (ok__law_pick F) hr (by decide) rfl (pa_cons (pv 0) (pa_cons (pe_dget (hu_of hr) (pv 1) pe_str (fun _ _ => rfl)) pa_nil))) (pa_cons (C8.pe_c (ok__law_pick F) hr (by decide) rfl (pa_cons (pv 0) (pa_cons (pe_dget (hu_of hr) (pv 1) pe_str (fun _ _ => rfl)) pa_nil))) (pa_cons (C8.pe_c (ok__law_pick F) hr (by decide) rfl (pa_cons (pv 0) (pa_cons (pe_dget (hu_of hr) (pv 1) pe_str (fun _ _ => rfl)) pa_nil))) pa_nil))) (by rfl)) (pss_cons (ps_set (i := 7) sc__law_act.nd rfl (Or.inl rfl) (C8.pe_c (ok__law_draw F) hr (by decide) rfl (pa_cons (pv 0) (pa_cons pe_int pa_nil)))) (pss_cons (ps_if (PW.pt (pw_and (pt_cmpR op_lt (pv 7) pe_int (nomark _)) (pw_and1 (pt_cmpR (op_neX hr) (pe_dget (hu_of hr) (pv 1) pe_str (fun _ _ => rfl)) (pe_lst pa_nil) (nomark _))))) (pss_one (ps_ret (C8.pe_c (ok__law_row_act F) hr (by decide) rfl (pa_cons (pv 0) (pa_cons (pv 1) (pa_cons (pv 3) pa_nil)))))) pss_nil) (pss_cons (ps_if (PW.pt (pw_and (pt_cmpR op_lt (pv 7) pe_int (nomark _)) (pw_and1 (pt_cmpR (op_neX hr) (pe_dget (hu_of hr) (pv 1) pe_str (fun _ _ => rfl)) (pe_lst pa_nil) (nomark _))))) (pss_one (ps_ret (C8.pe_c (ok__law_finger_act F) hr (by decide) rfl (pa_cons (pv 0) (pa_cons (pv 1) (pa_cons (pv 3) pa_nil)))))) pss_nil) (pss_cons (ps_if (pt_cmpR op_lt (pv 7) pe_int (nomark _)) (pss_one (ps_ret (pe_tup (pa_cons (C8.pe_c (ok__law_pick F) hr (by decide) rfl (pa_cons (pv 0) (pa_cons (pe_lst (pa_cons pe_str (pa_cons pe_str (pa_cons pe_str (pa_cons pe_str (pa_cons pe_str pa_nil)))))) pa_nil))) (pa_cons (pv 4) (pa_cons (pv 5) (pa_cons (pv 6) pa_nil))))))) pss_nil) (pss_cons (ps_if (pt_cmpR op_lt (pv 7) pe_int (nomark _)) (pss_one (ps_ret (pe_tup (pa_cons pe_str (pa_cons (pv 4) (pa_cons (C8.pe_c (ok__law_pick F) hr (by decide) rfl (pa_cons (pv 0) (pa_cons (C8.pe_c (ok__law_numbers F) hr (by decide) rfl (pa_cons (pv 1) pa_nil)) pa_nil))) (pa_cons (C8.pe_c (ok__law_a_word F) hr (by decide) rfl (pa_cons (pv 0) (pa_cons (pv 3) pa_nil))) pa_nil))))))) pss_nil) (pss_cons (ps_if (pt_cmpR op_lt (pv 7) pe_int (nomark _)) (pss_cons (ps_par (i := 8) (j := 9) rfl sc__law_act.nd rfl rfl (by decide) rfl rfl (pa_cons (C8.pe_c (ok__law_a_word F) hr (by decide) rfl (pa_cons (pv 0) (pa_cons (pv 3) pa_nil))) (pa_cons (C8.pe_c (ok__law_a_word F) hr (by decide) rfl (pa_cons (pv 0) (pa_cons (pv 3) pa_nil))) pa_nil)) (by rfl)) (pss_one (ps_ret (pe_tup (pa_cons pe_str (pa_cons (pv 4) (pa_cons (pe_callB (call_min2 rfl) rfl F.n_min (by decide +kernel) (pa_cons (pv 8) (pa_cons (pv 9) pa_nil))) (pa_cons (pe_callB (call_max2 rfl) rfl F.n_max (by decide +kernel) (pa_cons (pv 8) (pa_cons (pv 9) pa_nil))) pa_nil)))))))) pss_nil) (pss_cons (ps_if (pt_cmpR op_lt (pv 7) pe_int (nomark _)) (pss_one (ps_ret (pe_op op_addX (pe_op op_addX (pe_tup (pa_cons pe_str pa_nil)) (C8.pe_c (ok__law_test F) hr (by decide) rfl (pa_cons (pv 0) (pa_cons (pv 1) (pa_cons (pv 3) pa_nil))))) (pe_tup (pa_cons (C8.pe_c (ok__law_draw F) hr (by decide) rfl (pa_cons (pv 0) (pa_cons pe_int pa_nil))) pa_nil))))) pss_nil) (pss_cons (ps_if (pt_cmpR (op_eqX hr) (pv 7) pe_int (nomark _)) (pss_one (ps_ret (pe_op op_addX (pe_tup (pa_cons pe_str pa_nil)) (C8.pe_c (ok__law_test F) hr (by decide) rfl (pa_cons (pv 0) (pa_cons (pv 1) (pa_cons (pv 3) pa_nil))))))) pss_nil) (pss_cons (ps_if (pt_cmpR (op_eqX hr) (pv 7) pe_int (nomark _)) (pss_one (ps_ret (C8.pe_c (ok__law_call F) hr (by decide) rfl (pa_cons (pv 0) (pa_cons (pv 1) (pa_cons (C8.pe_c (ok__law_pick F) hr (by decide) rfl (pa_cons (pv 0) (pa_cons (pv 2) pa_nil))) pa_nil)))))) pss_nil) (pss_cons (ps_if (pt_cmpR (op_inX hr) (pv 7) (pe_tup (pa_cons pe_int (pa_cons pe_int (pa_cons pe_int pa_nil)))) (by with_unfolding_all rfl)) (pss_one (ps_ret (pe_tup (pa_cons (pe_ix ix_seq (pe_lst (pa_cons pe_str (pa_cons pe_str pa_nil))) (pe_callTy call_int1 rfl F.n_int (by decide +kernel) (pa_cons (pe_cmpR op_gt (pv 7) pe_int (nomark _)) pa_nil)) (fun _ _ => rfl)) (pa_cons (C8.pe_c (ok__law_pick F) hr (by decide) rfl (pa_cons (pv 0) (pa_cons (C8.pe_c (ok__law_numbers F) hr (by decide) rfl (pa_cons (pv 1) pa_nil)) pa_nil))) pa_nil))))) pss_nil) (pss_one (ps_ret (pe_ix ix_seq (pe_lst (pa_cons (pe_tup (pa_cons pe_str (pa_cons (pv 4) (pa_cons (C8.pe_c (ok__law_a_word F) hr (by decide) rfl (pa_cons (pv 0) (pa_cons (pv 3) pa_nil))) pa_nil)))) (pa_cons (pe_tup (pa_cons pe_str (pa_cons (pv 4) (pa_cons (pv 5) (pa_cons (pv 6) pa_nil))))) (pa_cons (pe_tup (pa_cons pe_str (pa_cons (C8.pe_c (ok__law_draw F) hr (by decide) rfl (pa_cons (pv 0) (pa_cons pe_int pa_nil))) pa_nil))) pa_nil)))) (C8.pe_c (ok__law_draw F) hr (by decide) rfl (pa_cons (pv 0) (pa_cons pe_int pa_nil))) (fun _ _ => rfl)))))))))))))))
theorem sc__law_loop : FnScope N__law_loop ["tape", "head", "wide"] (defScope s__law_loop) := ⟨rfl, rfl, rfl, by decide +kernel, rfl, by decide +kernel, by decide +kernel⟩
theorem ok__law_loop (F : Facts K mg w) : C8.Cal P w K mg base 3 "_law_loop" (sp__law_loop K w) [] := by
  refine calX F.g__law_loop F.d__law_loop sc__law_loop (bindsX F.d__law_loop (fun _ _ _ _ _ _ us hl => match us, hl with | [_, _, _], _ => rfl)) (fun hr => ?_)
  exact (pss_cons (ps_par3 (i := 3) (j := 4) (l := 5) rfl sc__law_loop.nd rfl rfl rfl (by decide) (by decide) (by decide) rfl rfl rfl (pa_cons (pe_ix ix_seq (pe_dget (hu_of hr) (pv 1) pe_str (fun _ _ => rfl)) pe_int (fun _ _ => rfl)) (pa_cons (pe_ix ix_seq (pe_dget (hu_of hr) (pv 1) pe_str (fun _ _ => rfl)) pe_int (fun _ _ => rfl)) (pa_cons (pe_ix ix_seq (pe_dget (hu_of hr) (pv 1) pe_str (fun _ _ => rfl)) pe_int (fun _ _ => rfl)) pa_nil))) (by rfl)) (pss_cons (ps_set (i := 6) sc__law_loop.nd rfl (Or.inl rfl) (pe_ix ix_seq (pe_op op_addX (pe_dget (hu_of hr) (pv 1) pe_str (fun _ _ => rfl)) (pe_dget (hu_of hr) (pv 1) pe_str (fun _ _ => rfl))) pe_int (fun _ _ => rfl))) (pss_cons (ps_set (i := 7) sc__law_loop.nd rfl (Or.inl rfl) (C8.pe_c (ok__law_pick F) hr (by decide) rfl (pa_cons (pv 0) (pa_cons (pe_lst (pa_cons (pe_tup (pa_cons pe_str (pa_cons (pv 5) (pa_cons (pv 3) (pa_cons (pv 4) pa_nil))))) (pa_cons (pe_tup (pa_cons pe_str (pa_cons (pv 3) (pa_cons (pv 4) (pa_cons (pv 5) pa_nil))))) (pa_cons (pe_tup (pa_cons pe_str (pa_cons (pv 3) (pa_cons (pv 4) (pa_cons (pv 4) pa_nil))))) pa_nil)))) pa_nil)))) (pss_cons (ps_set (i := 8) sc__law_loop.nd rfl (Or.inl rfl) (pe_lst (pa_cons (pe_tup (pa_cons pe_str (pa_cons (pv 5) (pa_cons pe_int (pa_cons (C8.pe_c (ok__law_draw F) hr (by decide) rfl (pa_cons (pv 0) (pa_cons (pe_op op_addX (pv 2) pe_int) pa_nil))) pa_nil))))) (pa_cons (pe_tup (pa_cons pe_str (pa_cons (pv 3) (pa_cons (pv 5) pa_nil)))) (pa_cons (pe_tup (pa_cons pe_str (pa_cons (pv 4) (pa_cons (C8.pe_c (ok__law_pick F) hr (by decide) rfl (pa_cons (pv 0) (pa_cons (pe_lst (pa_cons pe_int (pa_cons pe_int (pa_cons pe_int (pa_cons pe_int pa_nil))))) pa_nil))) pa_nil)))) pa_nil))))) (pss_cons (ps_set (i := 8) sc__law_loop.nd rfl (Or.inl rfl) (pe_op op_addX (pv 8) (pe_lst (pa_cons (pe_tup (pa_cons pe_str (pa_cons (pv 6) (pa_cons (pv 3) pa_nil)))) (pa_cons (pe_tup (pa_cons pe_str (pa_cons (pv 6) (pa_cons (C8.pe_c (ok__law_pick F) hr (by decide) rfl (pa_cons (pv 0) (pa_cons (pe_lst (pa_cons pe_str (pa_cons pe_str (pa_cons pe_str pa_nil)))) pa_nil))) (pa_cons (pv 4) (pa_cons pe_int pa_nil)))))) (pa_cons (pv 7) pa_nil)))))) (pss_one (ps_ret (pe_op op_addX (pv 8) (pe_lst (pa_cons (pe_tup (pa_cons pe_str (pa_cons (pv 4) (pa_cons (pv 4) (pa_cons pe_int pa_nil))))) (pa_cons (pe_tup (pa_cons pe_str (pa_cons (C8.pe_c (ok__law_pick F) hr (by decide) rfl (pa_cons (pv 0) (pa_cons (pe_lst (pa_cons pe_int (pa_cons pe_int pa_nil))) pa_nil))) pa_nil))) (pa_cons (pe_tup (pa_cons pe_str (pa_cons (pv 5) pa_nil))) pa_nil))))))))))))
theorem sc__law_steps : FnScope N__law_steps ["tape", "head", "heads", "wide", "most"] (defScope s__law_steps) := ⟨rfl, rfl, rfl, by decide +kernel, rfl, by decide +kernel, by decide +kernel⟩
theorem ok__law_steps (F : Facts K mg w) : C8.Cal P w K mg base 7 "_law_steps" (sp__law_steps K w) [] := by
  refine calX F.g__law_steps F.d__law_steps sc__law_steps (bindsX F.d__law_steps (fun _ _ _ _ _ _ us hl => match us, hl with | [_, _, _, _, _], _ => rfl)) (fun hr => ?_)
  exact (pss_cons (ps_set (i := 5) sc__law_steps.nd rfl (Or.inl rfl) (pe_lst pa_nil)) (C8.pss_cut (ps_if (PW.pt (pw_and (pt_cmpR (op_neX hr) (pe_dget (hu_of hr) (pv 1) pe_str (fun _ _ => rfl)) (pe_lst pa_nil) (nomark _)) (pw_and (pt_cmpR (op_neX hr) (pe_dget (hu_of hr) (pv 1) pe_str (fun _ _ => rfl)) (pe_lst pa_nil) (nomark _)) (pw_and (pt_cmpR op_gt (pe_callB call_lenX rfl F.n_len (by decide +kernel) (pa_cons (C8.pe_c (ok__law_numbers F) hr (by decide) rfl (pa_cons (pv 1) pa_nil)) pa_nil)) pe_int (nomark _)) (pw_and1 (pt_cmpR (op_eqX hr) (C8.pe_c (ok__law_draw F) hr (by decide) rfl (pa_cons (pv 0) (pa_cons pe_int pa_nil))) pe_int (nomark _))))))) (pss_one (ps_set (i := 5) sc__law_steps.nd rfl (Or.inl rfl) (C8.pe_c (ok__law_loop F) hr (by decide) rfl (pa_cons (pv 0) (pa_cons (pv 1) (pa_cons (pv 3) pa_nil)))))) pss_nil) (pss_cons (ps_for PassesOwn.never rfl (pi_range1 rfl F.n_range (pa_cons (pe_op op_addX pe_int (C8.pe_c (ok__law_draw F) hr (by decide) rfl (pa_cons (pv 0) (pa_cons (pv 4) pa_nil)))) pa_nil)) (pg_name (i := 6) sc__law_steps.nd rfl (Or.inl rfl)) (pss_one (ps_expr (pe_bm PySem.F.plainAttrs_list PySem.F.slot_list_append PySem.F.type_list_append mt_append (pv 5) (pa_cons (C8.pe_c (ok__law_act F) hr (by decide) rfl (pa_cons (pv 0) (pa_cons (pv 1) (pa_cons (pv 2) (pa_cons (pv 3) pa_nil))))) pa_nil))))) (pss_cons (ps_set (i := 7) sc__law_steps.nd rfl (Or.inl rfl) (pe_tup (pa_cons pe_str (pa_cons (C8.pe_c (ok__law_pick F) hr (by decide) rfl (pa_cons (pv 0) (pa_cons (C8.pe_c (ok__law_numbers F) hr (by decide) rfl (pa_cons (pv 1) pa_nil)) pa_nil))) pa_nil)))) (C8.pss_cut (ps_if (pt_cmpR (op_eqX hr) (C8.pe_c (ok__law_draw F) hr (by decide) rfl (pa_cons (pv 0) (pa_cons pe_int pa_nil))) pe_int (nomark _)) (pss_one (ps_set (i := 7) sc__law_steps.nd rfl (Or.inl rfl) (pe_tup (pa_cons pe_str (pa_cons (C8.pe_c (ok__law_draw F) hr (by decide) rfl (pa_cons (pv 0) (pa_cons pe_int pa_nil))) pa_nil))))) pss_nil) (pss_cons (ps_expr (pe_bm PySem.F.plainAttrs_list PySem.F.slot_list_append PySem.F.type_list_append mt_append (pv 5) (pa_cons (pv 7) pa_nil))) (pss_cons (ps_set (i := 8) sc__law_steps.nd rfl (Or.inl rfl) (pe_lst (pa_cons (C8.pe_c (ok__law_draw F) hr (by decide) rfl (pa_cons (pv 0) (pa_cons pe_int pa_nil))) pa_nil))) (pss_cons (ps_for PassesOwn.never rfl (pi_seqX (pe_slice sl_X (pv 5) (po_some pe_int) po_none)) (pg_name (i := 9) sc__law_steps.nd rfl (Or.inl rfl)) (pss_one (ps_expr (pe_bm PySem.F.plainAttrs_list PySem.F.slot_list_append PySem.F.type_list_append mt_append (pv 8) (pa_cons (pe_op op_addX (pe_op op_addX (pe_ix ix_seq (pv 8) (pe_un un_neg pe_int) (fun _ _ => rfl)) pe_int) (C8.pe_c (ok__law_draw F) hr (by decide) rfl (pa_cons (pv 0) (pa_cons (C8.pe_c (ok__law_pick F) hr (by decide) rfl (pa_cons (pv 0) (pa_cons (pe_lst (pa_cons pe_int (pa_cons pe_int (pa_cons pe_int pa_nil)))) pa_nil))) pa_nil)))) pa_nil))))) (pss_cons (ps_set (i := 10) sc__law_steps.nd rfl (Or.inl rfl) (pe_lst pa_nil)) (pss_cons (ps_for PassesOwn.never rfl (pi_zipX (by rfl) F.n_zip (pa_cons (pv 8) (pa_cons (pv 5) pa_nil))) (pg_tup rfl (pgs_cons (pg_name (i := 11) sc__law_steps.nd rfl (Or.inl rfl)) (pgs_cons (pg_name (i := 9) sc__law_steps.nd rfl (Or.inl rfl)) pgs_nil))) (C8.pss_cut (ps_if (pt_cmpR (op_inX hr) (pe_ix ix_seq (pv 9) pe_int (fun _ _ => rfl)) (pe_tup (pa_cons pe_str (pa_cons pe_str pa_nil))) (by with_unfolding_all rfl)) (pss_one (ps_set (i := 9) sc__law_steps.nd rfl (Or.inl rfl) (pe_op op_addX (pe_slice sl_X (pv 9) po_none (po_some (pe_un un_neg pe_int))) (pe_tup (pa_cons (pe_ix ix_seq (pv 8) (pe_op op_modN (pe_ix ix_seq (pv 9) (pe_un un_neg pe_int) (fun _ _ => rfl)) (pe_callB call_lenX rfl F.n_len (by decide +kernel) (pa_cons (pv 8) pa_nil))) (fun _ _ => rfl)) pa_nil))))) pss_nil) (pss_one (ps_expr (pe_bm PySem.F.plainAttrs_list PySem.F.slot_list_append PySem.F.type_list_append mt_append (pv 10) (pa_cons (pe_tup (pa_cons (pv 11) (pa_cons (pv 9) pa_nil))) pa_nil)))))) (pss_one (ps_ret (pe_callTy call_tupX rfl F.n_tuple (by decide +kernel) (pa_cons (pv 10) pa_nil))))))))))))))
theorem sc__law_program : FnScope N__law_program ["tape", "wides", "most"] (defScope s__law_program) := ⟨rfl, rfl, rfl, by decide +kernel, rfl, by decide +kernel, by decide +kernel⟩
theorem ok__law_program (F : Facts K mg w) : C8.Cal P w K mg base 8 "_law_program" (sp__law_program K w) [] := by
  refine calX F.g__law_program F.d__law_program sc__law_program (bindsX F.d__law_program (fun _ _ _ _ _ _ us hl => match us, hl with | [_, _, _], _ => rfl)) (fun hr => ?_)
  exact (pss_cons (ps_set (i := 3) sc__law_program.nd rfl (Or.inl rfl) (C8.pe_c (ok__law_pick F) hr (by decide) rfl (pa_cons (pv 0) (pa_cons (pv 1) pa_nil)))) (pss_cons (ps_setLc (i := 4) (own := [("k", 10)]) rfl sc__law_program.nd rfl rfl (sw_true rfl rfl rfl (by decide +kernel)) (pi_range1 rfl F.n_range (pa_cons (pe_op op_addX pe_int (C8.pe_c (ok__law_pick F) hr (by decide) rfl (pa_cons (pv 0) (pa_cons (pe_lst (pa_cons pe_int (pa_cons pe_int (pa_cons pe_int (pa_cons pe_int (pa_cons pe_int pa_nil)))))) pa_nil)))) pa_nil)) (blkOk_by (own := [("k", 10)]) (N := N__law_program) (sc := defScope s__law_program) (by decide +kernel)) (fun _ _ _ _ _ => (pg_name (i := 10) sc__law_program.nd rfl (Or.inl rfl))) (fun _ _ _ _ _ => pts_nil) (fun _ _ _ _ _ => (C8.pe_c (ok__law_head F) hr (by decide) rfl (pa_cons (pv 0) (pa_cons (pv 10) pa_nil))))) (pss_cons (ps_set (i := 5) sc__law_program.nd rfl (Or.inl rfl) (pe_lst pa_nil)) (pss_cons (ps_for PassesOwn.never rfl (pi_seqX (pv 4)) (pg_name (i := 6) sc__law_program.nd rfl (Or.inl rfl)) (pss_cons (ps_par (i := 7) (j := 8) rfl sc__law_program.nd rfl rfl (by decide) rfl rfl (pa_cons (pe_callTy call_tupX rfl F.n_tuple (by decide +kernel) (pa_cons (pe_dget (hu_of hr) (pv 6) pe_str (fun _ _ => rfl)) pa_nil)) (pa_cons (pe_callTy call_tupX rfl F.n_tuple (by decide +kernel) (pa_cons (pe_dget (hu_of hr) (pv 6) pe_str (fun _ _ => rfl)) pa_nil)) pa_nil)) (by rfl)) (pss_cons (ps_set (i := 9) sc__law_program.nd rfl (Or.inl rfl) (C8.pe_c (ok__law_steps F) hr (by decide) rfl (pa_cons (pv 0) (pa_cons (pv 6) (pa_cons (pv 4) (pa_cons (pv 3) (pa_cons (pv 2) pa_nil))))))) (pss_one (ps_expr (pe_bm PySem.F.plainAttrs_list PySem.F.slot_list_append PySem.F.type_list_append mt_append (pv 5) (pa_cons (pe_tup (pa_cons (pe_dget (hu_of hr) (pv 6) pe_str (fun _ _ => rfl)) (pa_cons (pe_callTy call_tupX rfl F.n_tuple (by decide +kernel) (pa_cons (pe_dget (hu_of hr) (pv 6) pe_str (fun _ _ => rfl)) pa_nil)) (pa_cons (pv 7) (pa_cons (pv 8) (pa_cons (pv 9) pa_nil)))))) pa_nil))))))) (C8.pss_cut (ps_if (pt_cmpR (op_eqX hr) (C8.pe_c (ok__law_draw F) hr (by decide) rfl (pa_cons (pv 0) (pa_cons pe_int pa_nil))) pe_int (nomark _)) (pss_one (ps_expr (pe_bm0 PySem.F.plainAttrs_list PySem.F.slot_list_reverse PySem.F.type_list_reverse mt_reverse (pv 5)))) pss_nil) (pss_one (ps_ret (pe_tup (pa_cons (pv 3) (pa_cons (pe_callTy call_tupX rfl F.n_tuple (by decide +kernel) (pa_cons (pv 5) pa_nil)) pa_nil))))))))))
theorem sc__law_handed : FnScope N__law_handed ["tape", "wide", "many"] (defScope s__law_handed) := ⟨rfl, rfl, rfl, by decide +kernel, rfl, by decide +kernel, by decide +kernel⟩
theorem ok__law_handed (F : Facts K mg w) : C8.Cal P w K mg base 4 "_law_handed" (sp__law_handed K w) [] := by
  refine calX F.g__law_handed F.d__law_handed sc__law_handed (bindsX F.d__law_handed (fun _ _ _ _ _ _ us hl => match us, hl with | [_, _, _], _ => rfl)) (fun hr => ?_)
  exact (pss_one (ps_ret (pe_callTy call_tupX rfl F.n_tuple (by decide +kernel) (pa_cons (pe_lc (own := [("turn", 3)]) rfl sc__law_handed.nd (pi_range1 rfl F.n_range (pa_cons (C8.pe_c (ok__law_draw F) hr (by decide) rfl (pa_cons (pv 0) (pa_cons (pe_op op_addX (pv 2) pe_int) pa_nil))) pa_nil)) (blkOk_by (own := [("turn", 3)]) (N := N__law_handed) (sc := defScope s__law_handed) (by decide +kernel)) (fun _ _ _ _ _ => (pg_name (i := 3) sc__law_handed.nd rfl (Or.inl rfl))) (fun _ _ _ _ _ => pts_nil) (fun _ _ _ _ _ => (C8.pe_c (ok__law_a_word F) hr (by decide) rfl (pa_cons (pv 0) (pa_cons (pv 1) pa_nil))))) pa_nil))))
theorem sc__law_first : FnScope N__law_first ["plan"] (defScope s__law_first) := ⟨rfl, rfl, rfl, by decide +kernel, rfl, by decide +kernel, by decide +kernel⟩
theorem ok__law_first (F : Facts K mg w) : C8.Cal P w K mg base 1 "_law_first" (sp__law_first K w) [] := by
  refine calX F.g__law_first F.d__law_first sc__law_first (bindsX F.d__law_first (fun _ _ _ _ _ _ us hl => match us, hl with | [_], _ => rfl)) (fun hr => ?_)
  exact (pss_cons (ps_set (i := 1) sc__law_first.nd rfl (Or.inl rfl) (pe_ix ix_seq (pe_lc (own := [("one", 2)]) rfl sc__law_first.nd (pi_seqX (pe_ix ix_seq (pv 0) pe_int (fun _ _ => rfl))) (blkOk_by (own := [("one", 2)]) (N := N__law_first) (sc := defScope s__law_first) (by decide +kernel)) (fun _ _ _ _ _ => (pg_name (i := 2) sc__law_first.nd rfl (Or.inl rfl))) (fun _ _ _ _ _ => (pts_one (pt_cmpR (op_eqX hr) (pe_ix ix_seq (pv 2) pe_int (fun _ _ => rfl)) pe_str (nomark _)))) (fun _ _ _ _ _ => (pe_ix ix_seq (pv 2) pe_int (fun _ _ => rfl)))) pe_int (fun _ _ => rfl))) (pss_one (ps_ret (pe_tup (pa_cons pe_str (pa_cons (pe_ix ix_seq (pe_ix ix_seq (pv 1) pe_int (fun _ _ => rfl)) pe_int (fun _ _ => rfl)) pa_nil))))))
theorem vals_rev {vs : List V} {us : List Value} (r : Vals vs us) : Vals vs.reverse us.reverse := by
  induction r with
  | nil => exact .nil
  | cons h t ih => rw [List.reverse_cons, List.reverse_cons]; exact ih.append (.cons h .nil)
theorem okk_compiled_1_left_out (F : Facts K mg w) : CalK P w K mg base 5 "compiled" (sp_compiled K w) 1 ["left_out"] (kb_compiled_1_left_out K) := by
  obtain ⟨fd, FD⟩ := F.d_compiled
  exact ⟨_, fd, _, _, fo_compiled F FD, F.g_compiled, FD.kp, kbinds0 FD 1 ["left_out"] (fun us ws => us ++ ws) (fun r1 r2 => r1.append r2) (fun _ _ _ _ _ _ us ws h1 h2 => match us, ws, h1, h2 with | [_], [_], _, _ => rfl)⟩
theorem okk_compiled_0_left_out_program (F : Facts K mg w) : CalK P w K mg base 5 "compiled" (sp_compiled K w) 0 ["left_out", "program"] (kb_compiled_0_left_out_program K) := by
  obtain ⟨fd, FD⟩ := F.d_compiled
  exact ⟨_, fd, _, _, fo_compiled F FD, F.g_compiled, FD.kp, kbinds0 FD 0 ["left_out", "program"] (fun _ ws => ws.reverse) (fun _ r2 => vals_rev r2) (fun _ _ _ _ _ _ us ws h1 h2 => match us, ws, h1, h2 with | [], [_, _], _, _ => rfl)⟩
theorem okk_run_rows_2_steps (F : Facts K mg w) : CalK P w K mg base 5 "run_rows" (sp_run_rows K w) 2 ["steps"] (kb_run_rows_2_steps K) := by
  obtain ⟨fd, FD⟩ := F.d_run_rows
  obtain ⟨its, mv, B⟩ := FD.kbinds (ps := ["rows", "words", "steps"]) 2 ["steps"] [] (fun vs _ _ zs => vs ++ zs) (fun z => nomatch z) (fun z => nomatch z) (fun _ h => nomatch h) (fun r1 _ _ r2 => r1.append r2) (fun T D doc pm an cdv ct us its mv ws h1 h2 h3 h4 => match us, its, mv, ws, h1, h2, h3, h4 with | [_, _], [_], [], [_], _, _, _, _ => ⟨_, rfl, rfl⟩)
  exact ⟨_, fd, _, _, fo_run_rows F FD, F.g_run_rows, FD.kp, B⟩
theorem okk_run_rows_1_words_steps (F : Facts K mg w) : CalK P w K mg base 5 "run_rows" (sp_run_rows K w) 1 ["words", "steps"] (kb_run_rows_1_words_steps K) := by
  obtain ⟨fd, FD⟩ := F.d_run_rows
  obtain ⟨its, mv, B⟩ := FD.kbinds (ps := ["rows", "words", "steps"]) 1 ["words", "steps"] [] (fun vs _ _ zs => vs ++ zs) (fun z => nomatch z) (fun z => nomatch z) (fun _ h => nomatch h) (fun r1 _ _ r2 => r1.append r2) (fun T D doc pm an cdv ct us its mv ws h1 h2 h3 h4 => match us, its, mv, ws, h1, h2, h3, h4 with | [_], [_], [], [_, _], _, _, _, _ => ⟨_, rfl, rfl⟩)
  exact ⟨_, fd, _, _, fo_run_rows F FD, F.g_run_rows, FD.kp, B⟩
theorem okk_run_rows_0_steps_words_rows (F : Facts K mg w) : CalK P w K mg base 5 "run_rows" (sp_run_rows K w) 0 ["steps", "words", "rows"] (kb_run_rows_0_steps_words_rows K) := by
  obtain ⟨fd, FD⟩ := F.d_run_rows
  obtain ⟨its, mv, B⟩ := FD.kbinds (ps := ["rows", "words", "steps"]) 0 ["steps", "words", "rows"] [] (fun _ _ _ zs => zs.reverse) (fun z => nomatch z) (fun z => nomatch z) (fun _ h => nomatch h) (fun _ _ _ r2 => vals_rev r2) (fun T D doc pm an cdv ct us its mv ws h1 h2 h3 h4 => match us, its, mv, ws, h1, h2, h3, h4 with | [], [_], [], [_, _, _], _, _, _, _ => ⟨_, rfl, rfl⟩)
  exact ⟨_, fd, _, _, fo_run_rows F FD, F.g_run_rows, FD.kp, B⟩
theorem okk_run_rows_1_steps (F : Facts K mg w) : CalK P w K mg base 5 "run_rows" (sp_run_rows K w) 1 ["steps"] (kb_run_rows_1_steps K) := by
  obtain ⟨fd, FD⟩ := F.d_run_rows
  obtain ⟨its, mv, B⟩ := FD.kbinds (ps := ["rows", "words", "steps"]) 1 ["steps"] [] (fun vs ds _ zs => vs ++ (ds ++ zs)) (fun z => nomatch z) (fun z => nomatch z) (fun _ h => nomatch h) (fun r1 r3 _ r2 => r1.append (r3.append r2)) (fun T D doc pm an cdv ct us its mv ws h1 h2 h3 h4 => match us, its, mv, ws, h1, h2, h3, h4 with | [_], [_], [], [_], _, _, _, _ => ⟨_, rfl, rfl⟩)
  exact ⟨_, fd, _, _, fo_run_rows F FD, F.g_run_rows, FD.kp, B⟩
theorem ok_run_rows_d1 (F : Facts K mg w) : C8.Cal P w K mg base 5 "run_rows" (sp_run_rows K w) (dv_run_rows_d1 K) := by
  obtain ⟨fd, FD⟩ := F.d_run_rows
  obtain ⟨ds, r, B⟩ := FD.binds (ps := ["rows", "words", "steps"]) 1 0 (fun z => nomatch z) rfl (fun T D doc pm an cdv ct us its ks h1 h2 h3 => match us, its, ks, h1, h2, h3 with | [_], [_], [_], _, _, _ => ⟨_, rfl, _, _, _, _, _, _, rfl, rfl, rfl⟩) (fun z => nomatch z)
  exact ⟨_, fd, _, ds, fo_run_rows F FD, F.g_run_rows, FD.kp, B, r⟩
theorem sc_law : FnScope N_law ["script"] (defScope s_law) := ⟨rfl, rfl, rfl, by decide +kernel, rfl, by decide +kernel, by decide +kernel⟩
theorem body_law (F : Facts K mg w) {f : Addr} {cdv : Value} {A : Around} {outer : List Env} {s : Shared} {H : Hp} {E : XK} (hr : Room 8 (A.deeper (envOfC "law" (defScope s_law) s.heap.objs.size f cdv))) (hg : A.guards = some []) : PSs (cxOf CX0 P w K mg base N_law "law" (defScope s_law) f cdv A outer s H E).nox (defBody s_law) (t_law K w) :=
  (pss_cons (ps_set (i := 1) sc_law.nd rfl (Or.inr rfl) (C8.pe_c (ok__law_tape F) hr (by decide) rfl (pa_cons (pv 0) (pa_cons pe_int pa_nil)))) (pss_cons (ps_setLc (i := 3) (own := [("k", 2)]) rfl sc_law.nd rfl rfl (sw_true rfl rfl rfl (by decide +kernel)) (pi_range1 rfl F.n_range (pa_cons pe_int pa_nil)) (blkOk_by (own := [("k", 2)]) (N := N_law) (sc := defScope s_law) (by decide +kernel)) (fun _ _ _ _ _ => (pg_name (i := 2) sc_law.nd rfl (Or.inl rfl))) (fun _ _ _ _ _ => pts_nil) (fun _ _ _ _ _ => (C8.pe_c (ok__law_program F) hr (by decide) rfl (pa_cons (pv 1) (pa_cons (pe_lst (pa_cons pe_int (pa_cons pe_int (pa_cons pe_int (pa_cons pe_int (pa_cons pe_int pa_nil)))))) (pa_cons pe_int pa_nil)))))) (pss_cons (ps_set (i := 4) sc_law.nd rfl (Or.inl rfl) (pe_lst pa_nil)) (pss_cons (ps_for PassesOwn.never rfl (pi_seqX (pv 3)) (pg_name (i := 5) sc_law.nd rfl (Or.inl rfl)) (pss_cons (ps_setLc (i := 6) (own := [("place", 17), ("why", 18)]) rfl sc_law.nd rfl rfl (sw_true rfl rfl rfl (by decide +kernel)) (pi_seqX (C8.pe_c (ok_looks F) hr (by decide) rfl (pa_cons (pv 5) pa_nil))) (blkOk_by (own := [("place", 17), ("why", 18)]) (N := N_law) (sc := defScope s_law) (by decide +kernel)) (fun _ _ _ _ _ => (pg_tup rfl (pgs_cons (pg_name (i := 17) sc_law.nd rfl (Or.inl rfl)) (pgs_cons (pg_name (i := 18) sc_law.nd rfl (Or.inl rfl)) pgs_nil)))) (fun _ _ _ _ _ => (pts_one (pt_cmpR (op_eqX hr) (C8.pe_c (ok__law_draw F) hr (by decide) rfl (pa_cons (pv 1) (pa_cons pe_int pa_nil))) pe_int (nomark _)))) (fun _ _ _ _ _ => (pv 17))) (pss_one (ps_expr (pe_bm PySem.F.plainAttrs_list PySem.F.slot_list_extend PySem.F.type_list_extend mt_extendX (pv 4) (pa_cons (pe_lst (pa_cons (pe_tup (pa_cons (pv 5) (pa_cons (pe_lst pa_nil) pa_nil))) (pa_cons (pe_tup (pa_cons (pv 5) (pa_cons (pv 6) pa_nil))) pa_nil))) pa_nil)))))) (pss_cons (ps_set (i := 7) sc_law.nd rfl (Or.inl rfl) (pe_lst pa_nil)) (pss_cons (ps_for PassesOwn.never rfl (pi_seqX (pv 4)) (pg_tup rfl (pgs_cons (pg_name (i := 5) sc_law.nd rfl (Or.inl rfl)) (pgs_cons (pg_name (i := 6) sc_law.nd rfl (Or.inl rfl)) pgs_nil))) (pss_cons (ps_set (i := 8) sc_law.nd rfl (Or.inl rfl) (pe_callTy call_list_of rfl F.n_list (by decide +kernel) (pa_cons (pv 6) pa_nil))) (pss_cons (ps_expr (pe_bm PySem.F.plainAttrs_list PySem.F.slot_list_append PySem.F.type_list_append mt_append (pv 7) (pa_cons (pe_callKX (okk_compiled_1_left_out F) hr (by decide) rfl (pa_cons (pv 5) pa_nil) (pk_cons (pv 8) pk_nil)) pa_nil))) (pss_cons (ps_expr (pe_bm0 PySem.F.plainAttrs_list PySem.F.slot_list_clear PySem.F.type_list_clear mt_clear (pv 8))) (pss_one (ps_expr (pe_bm PySem.F.plainAttrs_list PySem.F.slot_list_extend PySem.F.type_list_extend mt_extendX (pv 8) (pa_cons (pe_lc (own := [("place", 17), ("why", 18)]) rfl sc_law.nd (pi_seqX (C8.pe_c (ok_looks F) hr (by decide) rfl (pa_cons (pv 5) pa_nil))) (blkOk_by (own := [("place", 17), ("why", 18)]) (N := N_law) (sc := defScope s_law) (by decide +kernel)) (fun _ _ _ _ _ => (pg_tup rfl (pgs_cons (pg_name (i := 17) sc_law.nd rfl (Or.inl rfl)) (pgs_cons (pg_name (i := 18) sc_law.nd rfl (Or.inl rfl)) pgs_nil)))) (fun _ _ _ _ _ => (pts_one (pt_cmpR (op_eqX hr) (C8.pe_c (ok__law_draw F) hr (by decide) rfl (pa_cons (pv 1) (pa_cons pe_int pa_nil))) pe_int (nomark _)))) (fun _ _ _ _ _ => (pv 17))) pa_nil)))))))) (pss_cons (ps_setLc (i := 10) (own := [("one", 9)]) rfl sc_law.nd rfl rfl (sw_true rfl rfl rfl (by decide +kernel)) (pi_seqX (pv 7)) (blkOk_by (own := [("one", 9)]) (N := N_law) (sc := defScope s_law) (by decide +kernel)) (fun _ _ _ _ _ => (pg_name (i := 9) sc_law.nd rfl (Or.inl rfl))) (fun _ _ _ _ _ => pts_nil) (fun _ _ _ _ _ => (pe_callB (cr_reprX hr hg) rfl F.n_repr (by decide +kernel) (pa_cons (pv 9) pa_nil)))) (pss_cons (ps_setLc (i := 12) (own := [("turn", 11)]) rfl sc_law.nd rfl rfl (sw_true rfl rfl rfl (by decide +kernel)) (pi_range1 rfl F.n_range (pa_cons pe_int pa_nil)) (blkOk_by (own := [("turn", 11)]) (N := N_law) (sc := defScope s_law) (by decide +kernel)) (fun _ _ _ _ _ => (pg_name (i := 11) sc_law.nd rfl (Or.inl rfl))) (fun _ _ _ _ _ => pts_nil) (fun _ _ _ _ _ => (C8.pe_c (ok__law_handed F) hr (by decide) rfl (pa_cons (pv 1) (pa_cons pe_int (pa_cons pe_int pa_nil)))))) (pss_cons (ps_set (i := 13) sc_law.nd rfl (Or.inl rfl) (pe_lst (pa_cons pe_int (pa_cons pe_int (pa_cons (C8.pe_c (ok__law_draw F) hr (by decide) rfl (pa_cons (pv 1) (pa_cons pe_int pa_nil))) (pa_cons pe_int pa_nil)))))) (pss_cons (ps_set (i := 14) sc_law.nd rfl (Or.inl rfl) pe_dnewT) (pss_cons (ps_for PassesOwn.never rfl (pi_range1 rfl F.n_range (pa_cons pe_int pa_nil)) (pg_name (i := 11) sc_law.nd rfl (Or.inl rfl)) (pss_cons (ps_par (i := 15) (j := 2) rfl sc_law.nd rfl rfl (by decide) rfl rfl (pa_cons (C8.pe_c (ok__law_draw F) hr (by decide) rfl (pa_cons (pv 1) (pa_cons pe_int pa_nil))) (pa_cons (C8.pe_c (ok__law_draw F) hr (by decide) rfl (pa_cons (pv 1) (pa_cons pe_int pa_nil))) pa_nil)) (by rfl)) (pss_cons (ps_asg (pe_ix ix_seq (pv 4) (pv 15) (fun _ _ => rfl)) (pg_tup rfl (pgs_cons (pg_name (i := 5) sc_law.nd rfl (Or.inl rfl)) (pgs_cons (pg_name (i := 6) sc_law.nd rfl (Or.inl rfl)) pgs_nil)))) (C8.pss_cut (ps_if (pt_cmp (pc_dnotin (hu_of hr) (pe_tup (pa_cons (pv 15) (pa_cons (pv 2) pa_nil))) (pv 14))) (pss_one (ps_dput (hu_of hr) (pv 14) (pe_tup (pa_cons (pv 15) (pa_cons (pv 2) pa_nil))) (pe_callKX (okk_run_rows_2_steps F) hr (by decide) rfl (pa_cons (pe_callK0X (okk_compiled_0_left_out_program F) hr (by decide) rfl (pk_cons (pe_callTy call_tupX rfl F.n_tuple (by decide +kernel) (pa_cons (pv 6) pa_nil)) (pk_cons (pv 5) pk_nil))) (pa_cons (pe_ix ix_seq (pv 12) (pv 2) (fun _ _ => rfl)) pa_nil)) (pk_cons (pe_ix ix_seq (pv 13) (pv 2) (fun _ _ => rfl)) pk_nil)) rfl)) pss_nil) (pss_cons (ps_set (i := 9) sc_law.nd rfl (Or.inl rfl) (pe_ifExp (pt_cmpR (op_eqX hr) (C8.pe_c (ok__law_draw F) hr (by decide) rfl (pa_cons (pv 1) (pa_cons pe_int pa_nil))) pe_int (nomark _)) (pe_callTy call_list_of rfl F.n_list (by decide +kernel) (pa_cons (pe_ix ix_seq (pv 7) (pv 15) (fun _ _ => rfl)) pa_nil)) (pe_ix ix_seq (pv 7) (pv 15) (fun _ _ => rfl)))) (pss_cons (ps_set (i := 16) sc_law.nd rfl (Or.inl rfl) (pe_callKX (okk_run_rows_1_words_steps F) hr (by decide) rfl (pa_cons (pv 9) pa_nil) (pk_cons (pe_ix ix_seq (pv 12) (pv 2) (fun _ _ => rfl)) (pk_cons (pe_ix ix_seq (pv 13) (pv 2) (fun _ _ => rfl)) pk_nil)))) (C8.pss_cut (ps_if (pt_cmpR (op_eqX hr) (C8.pe_c (ok__law_draw F) hr (by decide) rfl (pa_cons (pv 1) (pa_cons pe_int pa_nil))) pe_int (nomark _)) (pss_one (ps_set (i := 16) sc_law.nd rfl (Or.inl rfl) (pe_callK0X (okk_run_rows_0_steps_words_rows F) hr (by decide) rfl (pk_cons (pe_ix ix_seq (pv 13) (pv 2) (fun _ _ => rfl)) (pk_cons (pe_ix ix_seq (pv 12) (pv 2) (fun _ _ => rfl)) (pk_cons (pv 9) pk_nil)))))) pss_nil) (pss_one (ps_if (pt_cmpR (op_neX hr) (pe_callB (cr_reprX hr hg) rfl F.n_repr (by decide +kernel) (pa_cons (pv 16) pa_nil)) (pe_callB (cr_reprX hr hg) rfl F.n_repr (by decide +kernel) (pa_cons (pe_dget (hu_of hr) (pv 14) (pe_tup (pa_cons (pv 15) (pa_cons (pv 2) pa_nil))) (fun _ _ => rfl)) pa_nil)) (nomark _)) (pss_one (ps_ret pe_bl)) pss_nil))))))))) (pss_cons (ps_for PassesOwn.never rfl (pi_enumX (by rfl) F.n_enumerate (pa_cons (pv 7) pa_nil)) (pg_tup rfl (pgs_cons (pg_name (i := 2) sc_law.nd rfl (Or.inl rfl)) (pgs_cons (pg_name (i := 9) sc_law.nd rfl (Or.inl rfl)) pgs_nil))) (pss_one (ps_if (pt_cmpR (op_neX hr) (pe_callKX (okk_run_rows_1_steps F) hr (by decide) rfl (pa_cons (pv 9) pa_nil) (pk_cons pe_int pk_nil)) (pe_tup (pa_cons (pe_tup pa_nil) (pa_cons (pe_tup (pa_cons pe_str (pa_cons pe_str (pa_cons (C8.pe_c (ok__law_first F) hr (by decide) rfl (pa_cons (pe_ix ix_seq (pe_ix ix_seq (pv 4) (pv 2) (fun _ _ => rfl)) pe_int (fun _ _ => rfl)) pa_nil)) pa_nil)))) (pa_cons pe_int (pa_cons pe_int pa_nil))))) (nomark _)) (pss_one (ps_ret pe_bl)) pss_nil))) (pss_cons (ps_if (pt_cmpR (op_neX hr) (C8.pe_c (ok_run_rows_d1 F) hr (by decide) rfl (pa_cons (pe_ix ix_seq (pv 7) pe_int (fun _ _ => rfl)) pa_nil)) (pe_callKX (okk_run_rows_2_steps F) hr (by decide) rfl (pa_cons (pe_ix ix_seq (pv 7) pe_int (fun _ _ => rfl)) (pa_cons (pe_tup pa_nil) pa_nil)) (pk_cons pe_int pk_nil)) (nomark _)) (pss_one (ps_ret pe_bl)) pss_nil) (pss_one (ps_ret (pe_cmpR (op_eqX hr) (pe_lc (own := [("one", 9)]) rfl sc_law.nd (pi_seqX (pv 7)) (blkOk_by (own := [("one", 9)]) (N := N_law) (sc := defScope s_law) (by decide +kernel)) (fun _ _ _ _ _ => (pg_name (i := 9) sc_law.nd rfl (Or.inl rfl))) (fun _ _ _ _ _ => pts_nil) (fun _ _ _ _ _ => (pe_callB (cr_reprX hr hg) rfl F.n_repr (by decide +kernel) (pa_cons (pv 9) pa_nil)))) (pv 10) (nomark _)))))))))))))))))
end
end R72


set_option Elab.async false
set_option linter.all false
set_option maxRecDepth 100000
set_option maxHeartbeats 4000000
/-! B0: what a reading evaluates to where nothing is made; dicts as plain association lists. -/
namespace B72
open PySem L2 Evl
section
variable {K : PySem.W.Frag} {w : World} {σ : L2.St} {H H' : Hp} {ta tb te td ty tx to ti : TE} {t u : TT} {x y z v : V} {r : R2} {D : Ends}

def Pv (te : TE) (σ : L2.St) (H : Hp) (v : V) : Prop := ∀ Q : VK, Q v H → te σ H Q
def Pt (tt : TT) (σ : L2.St) (H : Hp) (b : Bool) : Prop := ∀ Q : Bool → Hp → Prop, Q b H → tt σ H Q
def Pr (r : R2) (x y : V) (H : Hp) (z : V) : Prop := ∀ Q : VK, Q z H → r x y H Q
theorem pv_var {i : Nat} (h : σ[i]? = some (some v)) : Pv (tVar i) σ H v := fun _ q => ⟨v, h, q⟩
theorem pv_c : Pv (tC v) σ H v := fun _ q => q
theorem pv_op (ha : Pv ta σ H x) (hb : Pv tb σ H y) (hr : Pr r x y H z) : Pv (tOp r ta tb) σ H z := fun Q q => ha _ (hb _ (hr Q q))
theorem pv_neg {i : Int} (ha : Pv ta σ H (.int i)) : Pv (tUn rNegX ta) σ H (.int (-i)) := fun _ q => ha _ ⟨i, rfl, q⟩
theorem pv_fld {a C dx : Addr} {fs : List (Str × V)} {f : Str} (ha : Pv ta σ H (.ref a)) (h : H a = some (.ins C dx fs)) (c : Cls K C) (n : NoAttr K C f) (l : fs.lookup f = some v) : Pv (tFld K ta f) σ H v :=
  fun _ q => ha _ ⟨a, C, dx, fs, v, rfl, h, c, n, l, q⟩
theorem pv_get {a : Addr} (hd : Pv td σ H (.ref a)) (hy : Pv ty σ H y) (g : DGet H a y (some v)) : Pv (tDGet td ty) σ H v := fun _ q => hd _ (hy _ ⟨a, v, rfl, g, q⟩)
theorem pv_get2 {a : Addr} {o : Option V} (hd : Pv td σ H (.ref a)) (hi : IsD H a) (hy : Pv ty σ H y) (hx : Pv tx σ H z) (g : DGet H a y o) : Pv (tDGet2 td ty tx) σ H (o.getD z) := fun _ q => hd _ ⟨a, rfl, hi, hy _ (hx _ ⟨o, g, q⟩)⟩
theorem pv_din {a : Addr} {o : Option V} (hy : Pv ty σ H y) (hd : Pv td σ H (.ref a)) (g : DGet H a y o) : Pv (tDIn ty td) σ H (.bl o.isSome) := fun _ q => hy _ (hd _ ⟨a, o, rfl, g, q⟩)
theorem pv_ixd {p : Addr} {s : Str} (ha : Pv ta σ H (.ref p)) (hb : Pv tb σ H (.str s)) (h : KDct K w p s v) : Pv (tOp (rIxD K w) ta tb) σ H v := fun _ q => ha _ (hb _ ⟨p, s, v, rfl, rfl, h, q⟩)
theorem pr_ixt {p : Addr} {xs : List V} {i : Int} (h : SqT K H p xs) (a : atI xs i = some v) : Pr (rIx K) (.ref p) (.int i) H v := fun _ q => .inr (.inl ⟨p, xs, i, v, rfl, rfl, h, a, q⟩)
theorem pr_ixl {p : Addr} {xs : List V} {i : Int} (h : SqL K H p xs) (a : atI xs i = some v) : Pr (rIx K) (.ref p) (.int i) H v := fun _ q => .inl ⟨p, xs, i, v, rfl, rfl, h, a, q⟩
theorem pr_add {i j : Int} : Pr (rAddX K) (.int i) (.int j) H (.int (i + j)) := fun _ q => .inl ⟨i, j, rfl, rfl, q⟩
theorem pr_sub {i j : Int} : Pr rSubX (.int i) (.int j) H (.int (i - j)) := fun _ q => ⟨i, j, rfl, rfl, q⟩
theorem pr_mul {i j : Int} (h : CMulW i j) : Pr rMulX (.int i) (.int j) H (.int (i * j)) := fun _ q => .inl ⟨i, j, rfl, rfl, h, q⟩
theorem pr_fdv {i j : Int} (h : CDivN i j) : Pr rFdvX (.int i) (.int j) H (.int (i.fdiv j)) := fun _ q => .inr ⟨i, j, rfl, rfl, h, q⟩
theorem pr_fdw {i j : Int} (h : CDivW i j) : Pr rFdvX (.int i) (.int j) H (.int (i / j)) := fun _ q => .inl ⟨i, j, rfl, rfl, h, q⟩
theorem pr_mod {i j : Int} (h : j ≠ 0) : Pr rModX (.int i) (.int j) H (.int (i.fmod j)) := fun _ q => ⟨i, j, rfl, rfl, h, q⟩
theorem pr_lt {i j : Int} : Pr rLtX (.int i) (.int j) H (.bl (decide (i < j))) := fun _ q => ⟨i, j, rfl, rfl, q⟩
theorem pr_le {i j : Int} : Pr rLeX (.int i) (.int j) H (.bl (decide (i ≤ j))) := fun _ q => ⟨i, j, rfl, rfl, q⟩
theorem pr_gt {i j : Int} : Pr rGtX (.int i) (.int j) H (.bl (decide (j < i))) := fun _ q => ⟨i, j, rfl, rfl, q⟩
theorem pr_ge {i j : Int} : Pr rGeX (.int i) (.int j) H (.bl (decide (j ≤ i))) := fun _ q => ⟨i, j, rfl, rfl, q⟩
theorem pr_eq (h : scal x y = true) : Pr (rEqX K) x y H (.bl (decide (x = y))) := fun _ q => .inl ⟨h, q⟩
theorem pr_ne (h : scal x y = true) : Pr (rNeX K) x y H (.bl (!decide (x = y))) := fun _ q => .inl ⟨h, q⟩
theorem pr_isN : Pr rIsNX x .non H (.bl (decide (x = .non))) := fun _ q => ⟨rfl, q⟩
theorem pr_notN : Pr rNotNX x .non H (.bl (!decide (x = .non))) := fun _ q => ⟨rfl, q⟩
theorem pv_eqS {a b : Str} (ha : Pv ta σ H (.str a)) (hb : Pv tb σ H (.str b)) : Pv (tOp (rEqX K) ta tb) σ H (.bl (decide (a = b))) := by
  have h := pv_op (r := rEqX K) ha hb (pr_eq (x := .str a) (y := .str b) rfl)
  have e : decide (V.str a = V.str b) = decide (a = b) := by
    by_cases q : a = b
    · subst q; simp
    · rw [decide_eq_false q, decide_eq_false (fun e => q (V.str.inj e))]
  rw [e] at h
  exact h
theorem pv_eqI {a b : Int} (ha : Pv ta σ H (.int a)) (hb : Pv tb σ H (.int b)) : Pv (tOp (rEqX K) ta tb) σ H (.bl (decide (a = b))) := by
  have h := pv_op (r := rEqX K) ha hb (pr_eq (x := .int a) (y := .int b) rfl)
  have e : decide (V.int a = V.int b) = decide (a = b) := by
    by_cases q : a = b
    · subst q; simp
    · rw [decide_eq_false q, decide_eq_false (fun e => q (V.int.inj e))]
  rw [e] at h
  exact h
theorem pv_neI {a b : Int} (ha : Pv ta σ H (.int a)) (hb : Pv tb σ H (.int b)) : Pv (tOp (rNeX K) ta tb) σ H (.bl (!decide (a = b))) := by
  have h := pv_op (r := rNeX K) ha hb (pr_ne (x := .int a) (y := .int b) rfl)
  have e : decide (V.int a = V.int b) = decide (a = b) := by
    by_cases q : a = b
    · subst q; simp
    · rw [decide_eq_false q, decide_eq_false (fun e => q (V.int.inj e))]
  rw [e] at h
  exact h
theorem pv_isi_s {s : Str} (ha : Pv ta σ H (.str s)) : Pv (tCB (rIsiX K) (tCons ta (tCons (tC (.ty "str")) tNil))) σ H (.bl true) := fun _ q => ha _ ⟨.str s, rfl, .inl ⟨s, rfl, q⟩⟩
theorem pv_isi_i {i : Int} (ha : Pv ta σ H (.int i)) : Pv (tCB (rIsiX K) (tCons ta (tCons (tC (.ty "str")) tNil))) σ H (.bl false) := fun _ q => ha _ ⟨.int i, rfl, .inr (.inl ⟨i, rfl, q⟩)⟩
theorem pv_isi_t {a : Addr} {ys : List V} (ha : Pv ta σ H (.ref a)) (h : SqT K H a ys) : Pv (tCB (rIsiX K) (tCons ta (tCons (tC (.ty "str")) tNil))) σ H (.bl false) := fun _ q => ha _ ⟨.ref a, rfl, .inr (.inr ⟨a, ys, rfl, h, q⟩)⟩
theorem pv_lenl {a : Addr} {ys : List V} (ha : Pv ta σ H (.ref a)) (h : SqL K H a ys) : Pv (tCB (rLenX K) (tCons ta tNil)) σ H (.int ys.length) := fun _ q => ha _ (.inl ⟨a, ys, rfl, .inl h, q⟩)
theorem pv_lent {a : Addr} {ys : List V} (ha : Pv ta σ H (.ref a)) (h : SqT K H a ys) : Pv (tCB (rLenX K) (tCons ta tNil)) σ H (.int ys.length) := fun _ q => ha _ (.inl ⟨a, ys, rfl, .inr h, q⟩)
theorem pv_max2 {i j : Int} (ha : Pv ta σ H (.int i)) (hb : Pv tb σ H (.int j)) : Pv (tCB rMax2X (tCons ta (tCons tb tNil))) σ H (.int (if j > i then j else i)) := fun _ q => ha _ (hb _ ⟨i, j, rfl, q⟩)
theorem pv_min2 {i j : Int} (ha : Pv ta σ H (.int i)) (hb : Pv tb σ H (.int j)) : Pv (tCB rMin2X (tCons ta (tCons tb tNil))) σ H (.int (if j < i then j else i)) := fun _ q => ha _ (hb _ ⟨i, j, rfl, q⟩)
theorem pv_if {b : Bool} (h : Pt t σ H b) (h1 : b = true → Pv ta σ H v) (h2 : b = false → Pv tb σ H v) : Pv (tIf t ta tb) σ H v := fun Q q => h _ (by
  cases b with
  | true => exact h1 rfl Q q
  | false => exact h2 rfl Q q)
theorem pt_test {b : Bool} (h : Pv te σ H (.bl b)) : Pt (tTest te) σ H b := fun _ q => h _ ⟨b, rfl, q⟩
theorem pt_B {b : Bool} (h : Pv te σ H (.bl b)) : Pt (tB te) σ H b := fun _ q => h _ ⟨b, rfl, q⟩
theorem pt_not {b : Bool} (h : Pt t σ H b) : Pt (tNot t) σ H (!b) := fun _ q => h _ q
theorem pt_and {a b : Bool} (h1 : Pt t σ H a) (h2 : a = true → Pt u σ H b) : Pt (tAnd t u) σ H (a && b) := fun Q q => h1 _ (by
  cases a with
  | true => exact h2 rfl Q q
  | false => exact q)
theorem pv_notV {b : Bool} (h : Pv te σ H (.bl b)) : Pv (tNotV te) σ H (.bl (!b)) := fun _ q => h _ ⟨b, rfl, q⟩
theorem pv_andV {a b : Bool} (h1 : Pv ta σ H (.bl a)) (h2 : a = true → Pv tb σ H (.bl b)) : Pv (tAndV ta tb) σ H (.bl (a && b)) := fun Q q => h1 _ ⟨a, rfl, by
  cases a with
  | true => exact h2 rfl Q q
  | false => exact q⟩
theorem pv_chain {r r' : R2} {a b : Bool} (ha : Pv ta σ H x) (hb : Pv tb σ H y) (hr : Pr r x y H (.bl a)) (hc : Pv te σ H z) (hr' : Pr r' y z H (.bl b)) : Pv (tChain r r' ta tb te) σ H (.bl (a && b)) := fun Q q =>
  ha _ (hb _ (hr _ ⟨a, rfl, by
    cases a with
    | true => exact hc _ (hr' Q q)
    | false => exact q⟩))
def Pa (ta : TA) (σ : L2.St) (H : Hp) (vs : List V) : Prop := ∀ Q : List V → Hp → Prop, Q vs H → ta σ H Q
theorem pa_nil : Pa tNil σ H [] := fun _ q => q
theorem pa_cons {tr : TA} {vs : List V} (h : Pv ta σ H v) (hr : Pa tr σ H vs) : Pa (tCons ta tr) σ H (v :: vs) := fun _ q => h _ (hr _ q)
theorem t_tup {ta : TA} {xs : List V} {Q : VK} (h : Pa ta σ H xs) (hl : xs.length ≤ 100000) (k : ∀ p, H p = none → Q (.ref p) (upd H p (.tup xs))) : tTup ta σ H Q := h _ ⟨sz_of hl, k⟩
theorem t_lst {ta : TA} {xs : List V} {Q : VK} (h : Pa ta σ H xs) (hl : xs.length ≤ 100000) (k : ∀ p, H p = none → Q (.ref p) (upd H p (.lst xs))) : tLst ta σ H Q := h _ ⟨sz_of hl, k⟩
theorem t_call {sp : Sp} {E : XK} {ta : TA} {vs : List V} {Q : VK} (h : Pa ta σ H vs) (k : sp vs H Q E) : tCall sp [] E ta σ H Q := h _ (by rw [List.append_nil]; exact k)
theorem t_meth {C a dx : Addr} {m : Str} {fs : List (Str × V)} {sp : Sp} {E : XK} {to : TE} {ta : TA} {vs : List V} {Q : VK} (ho : Pv to σ H (.ref a)) (e : H a = some (.ins C dx fs)) (hm : fs.lookup m = none) (h : Pa ta σ H vs) (k : sp (.ref a :: vs) H Q E) : tMeth C m sp [] E to ta σ H Q :=
  ho _ ⟨a, dx, fs, rfl, e, hm, h _ (by rw [List.append_nil]; exact k)⟩
theorem t_methK {C a dx : Addr} {m : Str} {fs : List (Str × V)} {sp : Sp} {E : XK} {to : TE} {ta : TA} {Q : VK} (ho : Pv to σ H (.ref a)) (e : H a = some (.ins C dx fs)) (hm : fs.lookup m = none) (k : ta σ H fun vs H1 => sp (.ref a :: (vs ++ [])) H1 Q E) : tMeth C m sp [] E to ta σ H Q :=
  ho _ ⟨a, dx, fs, rfl, e, hm, k⟩
theorem u_cons {tr : TA} {Q : List V → Hp → Prop} (k : ta σ H fun x H1 => tr σ H1 fun xs H2 => Q (x :: xs) H2) : tCons ta tr σ H Q := k
theorem u_op {Q : VK} (k : ta σ H fun x H1 => tb σ H1 fun y H2 => r x y H2 Q) : tOp r ta tb σ H Q := k
theorem u_call {sp : Sp} {E : XK} {ta : TA} {Q : VK} (k : ta σ H fun vs H1 => sp (vs ++ []) H1 Q E) : tCall sp [] E ta σ H Q := k
theorem u_asg {g : TG} (k : te σ H fun x H1 => g x σ H1 D.nx) : tAsg te g D σ H := k
theorem u_ret (k : te σ H D.rt) : tRet te D σ H := k
theorem u_drop (k : te σ H fun _ H1 => D.nx σ H1) : tDrop te D σ H := k
theorem u_if {s1 s2 : TS} (k : t σ H fun b H1 => if b = true then s1 D σ H1 else s2 D σ H1) : tIfS t s1 s2 D σ H := k
theorem u_false {A B : Prop} (h : B) : if (false = true) then A else B := by rw [if_neg (by decide)]; exact h
theorem u_true {A B : Prop} (h : A) : if (true = true) then A else B := by rw [if_pos rfl]; exact h
theorem u_yes {A B : Hp → Prop} (h : A H) : tYes σ H (fun b H3 => if b = true then A H3 else B H3) := h
theorem u_fld {f : Str} (k : tx σ H fun y H1 => ta σ H1 fun x H2 => ∃ a C dx fs, x = .ref a ∧ H2 a = some (.ins C dx fs) ∧ Cls K C ∧ NoAttr K C f ∧ fs.length < 1000 ∧ D.nx σ (upd H2 a (.ins C dx (putF f y fs)))) : sFld K ta tx f D σ H := k
theorem u_bm0 {T : String} {rr : V → List V → Hp → VK → Prop} {Q : VK} (k : to σ H fun x H1 => tyV K T x H1 ∧ rr x [] H1 Q) : tBM0 K T rr to σ H Q := k
theorem u_bm {T : String} {rr : V → List V → Hp → VK → Prop} {t : TA} {Q : VK} (k : to σ H fun x H1 => tyV K T x H1 ∧ t σ H1 fun xs H2 => rr x xs H2 Q) : tBM K T rr to t σ H Q := k
theorem u_test {Q : Bool → Hp → Prop} (k : te σ H fun x H' => ∃ k, x = .bl k ∧ Q k H') : tTest te σ H Q := k
theorem u_tB {Q : Bool → Hp → Prop} (k : te σ H fun x H' => ∃ k, x = .bl k ∧ Q k H') : tB te σ H Q := k
theorem u_lst {ta : TA} {Q : VK} (k : ta σ H fun xs H1 => xs.length ≤ sizeLine ∧ ∀ p, H1 p = none → Q (.ref p) (upd H1 p (.lst xs))) : tLst ta σ H Q := k
theorem u_tup {ta : TA} {Q : VK} (k : ta σ H fun xs H1 => xs.length ≤ sizeLine ∧ ∀ p, H1 p = none → Q (.ref p) (upd H1 p (.tup xs))) : tTup ta σ H Q := k
theorem u_par {i j : Nat} {ta : TA} (k : ta σ H fun vs H1 => ∃ v w, vs = [v, w] ∧ D.nx ((σ.set i (some v)).set j (some w)) H1) : tPar i j ta D σ H := k
theorem u_par3 {i j l : Nat} {ta : TA} (k : ta σ H fun vs H1 => ∃ u v w, vs = [u, v, w] ∧ D.nx (((σ.set i (some u)).set j (some v)).set l (some w)) H1) : tPar3 i j l ta D σ H := k
theorem u_seq {s1 s2 : TS} (k : s1 { D with nx := s2 D } σ H) : tSeq s1 s2 D σ H := k
theorem u_cut {s1 s2 : TS} (k : ∃ Mid : L2.St → Hp → Prop, s1 { D with nx := Mid } σ H ∧ ∀ σ' H', Mid σ' H' → s2 D σ' H') : C8.tCut s1 s2 D σ H := k
theorem u_slL {to' : TE} {lo hi : TO} {rr : V → Option Int → Option Int → Hp → VK → Prop} {Q : VK} (k : to' σ H fun x H1 => lo σ H1 fun l H2 => hi σ H2 fun u H3 => rr x l u H3 Q) : tSl rr to' lo hi σ H Q := k
theorem u_part {Q : Option Int → Hp → Prop} (k : te σ H fun x H1 => ∃ i, x = .int i ∧ Q (some i) H1) : tPart te σ H Q := k
/-! statements -/
theorem a_asg {g : TG} (h : Pv te σ H v) (k : g v σ H D.nx) : tAsg te g D σ H := h _ k
theorem a_asgT {ta : TA} {xs : List V} {g : TG} (h : Pa ta σ H xs) (hl : xs.length ≤ 100000) (k : ∀ p, H p = none → g (.ref p) σ (upd H p (.tup xs)) D.nx) : tAsg (tTup ta) g D σ H := t_tup h hl k
theorem a_asgL {ta : TA} {xs : List V} {g : TG} (h : Pa ta σ H xs) (hl : xs.length ≤ 100000) (k : ∀ p, H p = none → g (.ref p) σ (upd H p (.lst xs)) D.nx) : tAsg (tLst ta) g D σ H := t_lst h hl k
theorem a_retT {ta : TA} {xs : List V} (h : Pa ta σ H xs) (hl : xs.length ≤ 100000) (k : ∀ p, H p = none → D.rt (.ref p) (upd H p (.tup xs))) : tRet (tTup ta) D σ H := t_tup h hl k
theorem a_ret (h : Pv te σ H v) (k : D.rt v H) : tRet te D σ H := h _ k
theorem a_drop (h : Pv te σ H v) (k : D.nx σ H) : tDrop te D σ H := h _ k
theorem a_if {b : Bool} {s1 s2 : TS} (h : Pt t σ H b) (h1 : b = true → s1 D σ H) (h2 : b = false → s2 D σ H) : tIfS t s1 s2 D σ H := h _ (by
  cases b with
  | true => exact h1 rfl
  | false => exact h2 rfl)
theorem a_put {a : Addr} {H4 : Hp} (hv : Pv tx σ H v) (hd : Pv td σ H (.ref a)) (hy : Pv ty σ H y) (p : DPut H a y v H4) (k : D.nx σ H4) : sDPut td ty tx D σ H := hv _ (hd _ (hy _ ⟨a, H4, rfl, p, k⟩))
theorem a_fld {a C dx : Addr} {fs : List (Str × V)} {f : Str} (hv : Pv tx σ H v) (ha : Pv ta σ H (.ref a)) (h : H a = some (.ins C dx fs)) (c : Cls K C) (n : NoAttr K C f) (hl : fs.length < 1000) (k : D.nx σ (upd H a (.ins C dx (putF f v fs)))) : sFld K ta tx f D σ H :=
  hv _ (ha _ ⟨a, C, dx, fs, rfl, h, c, n, hl, k⟩)
theorem a_aug1 {a C dx : Addr} {fs : List (Str × V)} {f : Str} {i j : Int} (ha : Pv ta σ H (.ref a)) (h : H a = some (.ins C dx fs)) (c : Cls K C) (n : NoAttr K C f) (l : fs.lookup f = some (.int i)) (hl : fs.length < 1000)
    (k : D.nx σ (upd H a (.ins C dx (putF f (.int (i + j)) fs)))) : sFldAug K ta (tC (.int j)) rAdd f D σ H := ha _ ⟨a, C, dx, fs, .int i, rfl, h, c, n, l, ⟨i, j, rfl, rfl, dx, fs, h, hl, k⟩⟩
theorem a_app {l : Addr} {xs : List V} (ha : Pv ta σ H (.ref l)) (h : Pv te σ H v) (hl : H l = some (.lst xs)) (hz : xs.length < sizeLine) (k : D.nx σ (upd H l (.lst (xs ++ [v])))) : tDrop (tBM K "list" rAppend ta (tCons te tNil)) D σ H :=
  ha _ ⟨.inl ⟨rfl, xs, sq_of hl⟩, h _ ⟨l, xs, v, rfl, rfl, hl, hz, k⟩⟩
theorem g_n2 {a : Addr} {v1 v2 : V} {i j : Nat} {Q : L2.St → Hp → Prop} (h : SqT K H a [v1, v2]) (k : Q ((σ.set i (some v1)).set j (some v2)) H) : gTup K 2 (gCons (gName i) (gCons (gName j) gNil)) (.ref a) σ H Q :=
  ⟨a, [v1, v2], rfl, h, rfl, v1, [v2], rfl, v2, [], rfl, rfl, k⟩
theorem g_n3 {a : Addr} {v1 v2 v3 : V} {i j l : Nat} {Q : L2.St → Hp → Prop} (h : SqT K H a [v1, v2, v3]) (k : Q (((σ.set i (some v1)).set j (some v2)).set l (some v3)) H) : gTup K 3 (gCons (gName i) (gCons (gName j) (gCons (gName l) gNil))) (.ref a) σ H Q :=
  ⟨a, [v1, v2, v3], rfl, h, rfl, v1, [v2, v3], rfl, v2, [v3], rfl, v3, [], rfl, rfl, k⟩
theorem g_n4 {a : Addr} {v1 v2 v3 v4 : V} {i j l m : Nat} {Q : L2.St → Hp → Prop} (h : SqT K H a [v1, v2, v3, v4]) (k : Q ((((σ.set i (some v1)).set j (some v2)).set l (some v3)).set m (some v4)) H) : gTup K 4 (gCons (gName i) (gCons (gName j) (gCons (gName l) (gCons (gName m) gNil)))) (.ref a) σ H Q :=
  ⟨a, [v1, v2, v3, v4], rfl, h, rfl, v1, [v2, v3, v4], rfl, v2, [v3, v4], rfl, v3, [v4], rfl, v4, [], rfl, rfl, k⟩
end
/-! ### dicts as association lists -/
section
variable {κ α : Type} [DecidableEq κ]
def getA (es : List (κ × α)) (k : κ) : Option α := (es.find? fun e => decide (e.1 = k)).map (·.2)
def putA (es : List (κ × α)) (k : κ) (v : α) : List (κ × α) := if (es.any fun e => decide (e.1 = k)) = true then es.map (fun e => if e.1 = k then (e.1, v) else e) else es ++ [(k, v)]
def keysA (es : List (κ × α)) : List κ := es.map (·.1)
variable {f : κ → Key} {g : α → V}
theorem valV_map (hf : ∀ a b, f a = f b → a = b) (es : List (κ × α)) (k : κ) : valV (es.map fun e => (f e.1, g e.2)) (f k) = (getA es k).map g := by
  induction es with
  | nil => rfl
  | cons e es ih =>
    unfold valV getA at *
    by_cases h : e.1 = k
    · subst h
      simp
    · have h2 : ¬ f e.1 = f k := fun q => h (hf _ _ q)
      simp only [List.map_cons, List.find?_cons, decide_eq_false h, decide_eq_false h2]
      exact ih
theorem any_map (hf : ∀ a b, f a = f b → a = b) (es : List (κ × α)) (k : κ) : ((es.map fun e => (f e.1, g e.2)).any fun kv => decide (kv.1 = f k)) = es.any fun e => decide (e.1 = k) := by
  induction es with
  | nil => rfl
  | cons e es ih =>
    simp only [List.map_cons, List.any_cons, ih]
    congr 1
    by_cases h : e.1 = k
    · subst h; simp
    · rw [decide_eq_false h, decide_eq_false (fun q => h (hf _ _ q))]
theorem putK_map (hf : ∀ a b, f a = f b → a = b) (es : List (κ × α)) (k : κ) (v : α) : putK (es.map fun e => (f e.1, g e.2)) (f k) (g v) = (putA es k v).map fun e => (f e.1, g e.2) := by
  unfold putK putA
  rw [any_map hf]
  by_cases h : (es.any fun e => decide (e.1 = k)) = true
  · rw [if_pos h, if_pos h, List.map_map, List.map_map]
    apply List.map_congr_left
    intro e _
    by_cases q : e.1 = k
    · subst q; simp
    · have q2 : ¬ f e.1 = f k := fun z => q (hf _ _ z)
      simp [q, q2]
  · rw [if_neg h, if_neg h, List.map_append]
    rfl
theorem any_mem (es : List (κ × α)) (k : κ) : (es.any fun e => decide (e.1 = k)) = true ↔ k ∈ keysA es := by
  unfold keysA
  simp only [List.any_eq_true, decide_eq_true_eq, List.mem_map]
theorem keys_put (es : List (κ × α)) (k : κ) (v : α) : keysA (putA es k v) = if k ∈ keysA es then keysA es else keysA es ++ [k] := by
  unfold putA
  by_cases h : (es.any fun e => decide (e.1 = k)) = true
  · rw [if_pos h, if_pos ((any_mem es k).mp h)]
    unfold keysA
    rw [List.map_map]
    apply List.map_congr_left
    intro e _
    by_cases q : e.1 = k <;> simp [q]
  · rw [if_neg h, if_neg (fun z => h ((any_mem es k).mpr z))]
    simp [keysA]
theorem len_put (es : List (κ × α)) (k : κ) (v : α) : (putA es k v).length = if k ∈ keysA es then es.length else es.length + 1 := by
  have h : (keysA (putA es k v)).length = (if k ∈ keysA es then keysA es else keysA es ++ [k]).length := by rw [keys_put]
  have h1 : (keysA (putA es k v)).length = (putA es k v).length := by unfold keysA; rw [List.length_map]
  have h2 : (keysA es).length = es.length := by unfold keysA; rw [List.length_map]
  rw [← h1, h]
  by_cases q : k ∈ keysA es
  · rw [if_pos q, if_pos q, h2]
  · rw [if_neg q, if_neg q, List.length_append, h2]; rfl
theorem len_put_le (es : List (κ × α)) (k : κ) (v : α) : (putA es k v).length ≤ es.length + 1 := by
  rw [len_put]; split <;> omega
theorem get_some {es : List (κ × α)} {k : κ} (h : k ∈ keysA es) : ∃ v, getA es k = some v ∧ (k, v) ∈ es := by
  induction es with
  | nil => simp [keysA] at h
  | cons e es ih =>
    unfold getA
    by_cases q : e.1 = k
    · refine ⟨e.2, by simp [List.find?_cons, q], ?_⟩
      rw [← q]; simp
    · have h' : k ∈ keysA es := by
        unfold keysA at h ⊢
        rcases List.mem_cons.mp h with z | z
        · exact absurd z.symm q
        · exact z
      obtain ⟨v, hv, hm⟩ := ih h'
      refine ⟨v, ?_, List.mem_cons_of_mem _ hm⟩
      rw [List.find?_cons, decide_eq_false q]
      exact hv
theorem mem_get {es : List (κ × α)} {k : κ} {v : α} (h : getA es k = some v) : (k, v) ∈ es := by
  unfold getA at h
  obtain ⟨e, he, h2⟩ := Option.map_eq_some_iff.mp h
  have h3 := List.find?_some he
  have h4 := List.mem_of_find?_eq_some he
  have h5 : e.1 = k := of_decide_eq_true h3
  subst h5
  subst h2
  exact h4
theorem mem_key {es : List (κ × α)} {k : κ} {v : α} (h : getA es k = some v) : k ∈ keysA es := List.mem_map_of_mem (f := (·.1)) (mem_get h)
theorem not_mem_get {es : List (κ × α)} {k : κ} (h : k ∉ keysA es) : getA es k = none := by
  cases q : getA es k with
  | none => rfl
  | some v => exact absurd (mem_key q) h
theorem mem_put {es : List (κ × α)} {k : κ} {v : α} {e : κ × α} (h : e ∈ putA es k v) : e = (k, v) ∨ e ∈ es := by
  unfold putA at h
  split at h
  · obtain ⟨e', he, h2⟩ := List.mem_map.mp h
    by_cases q : e'.1 = k
    · rw [if_pos q, q] at h2; exact .inl h2.symm
    · rw [if_neg q] at h2; subst h2; exact .inr he
  · rcases List.mem_append.mp h with z | z
    · exact .inr z
    · exact .inl (List.mem_singleton.mp z)
theorem mem_keys_put {es : List (κ × α)} {k k' : κ} {v : α} (h : k' ∈ keysA es) : k' ∈ keysA (putA es k v) := by
  rw [keys_put]; split
  · exact h
  · exact List.mem_append_left _ h
theorem mem_keys_self {es : List (κ × α)} {k : κ} {v : α} : k ∈ keysA (putA es k v) := by
  rw [keys_put]; split
  · assumption
  · simp
/-! values by a relation -/
variable {R : V → α → Prop}
theorem paired_val (hf : ∀ a b, f a = f b → a = b) {kvs : List (Key × V)} {es : List (κ × α)} (h : Paired (fun kv e => kv.1 = f e.1 ∧ R kv.2 e.2) kvs es) (k : κ) :
    (getA es k = none ∧ valV kvs (f k) = none) ∨ ∃ v a, getA es k = some a ∧ valV kvs (f k) = some v ∧ R v a := by
  induction h with
  | nil => exact .inl ⟨rfl, rfl⟩
  | @cons kv e kvs es h hs ih =>
    unfold getA valV at *
    by_cases q : e.1 = k
    · refine .inr ⟨kv.2, e.2, by simp [List.find?_cons, q], ?_, h.2⟩
      rw [List.find?_cons, h.1, q]; simp
    · have q2 : ¬ kv.1 = f k := fun z => q (hf _ _ (h.1.symm.trans z))
      rw [List.find?_cons, List.find?_cons, decide_eq_false q, decide_eq_false q2]
      exact ih
theorem paired_put (hf : ∀ a b, f a = f b → a = b) {kvs : List (Key × V)} {es : List (κ × α)} (h : Paired (fun kv e => kv.1 = f e.1 ∧ R kv.2 e.2) kvs es) (k : κ) {v : V} {a : α} (r : R v a) :
    Paired (fun kv e => kv.1 = f e.1 ∧ R kv.2 e.2) (putK kvs (f k) v) (putA es k a) := by
  have e : (kvs.any fun kv => decide (kv.1 = f k)) = es.any fun e => decide (e.1 = k) := by
    induction h with
    | nil => rfl
    | @cons kv e kvs es h hs ih =>
      simp only [List.any_cons, ih]
      congr 1
      rw [h.1]
      by_cases q : e.1 = k
      · subst q; simp
      · rw [decide_eq_false q, decide_eq_false (fun z => q (hf _ _ z))]
  unfold putK putA
  rw [e]
  by_cases q : (es.any fun e => decide (e.1 = k)) = true
  · rw [if_pos q, if_pos q]
    clear e q
    induction h with
    | nil => exact .nil
    | @cons kv e kvs es h hs ih =>
      refine .cons ?_ ih
      by_cases q : e.1 = k
      · have q2 : kv.1 = f k := by rw [h.1, q]
        simp only [if_pos q, if_pos q2]; exact ⟨h.1, r⟩
      · have q2 : ¬ kv.1 = f k := fun z => q (hf _ _ (h.1.symm.trans z))
        simp only [if_neg q, if_neg q2]; exact h
  · rw [if_neg q, if_neg q]
    exact Paired.snoc h ⟨rfl, r⟩
theorem Paired.len {α β : Type} {R : α → β → Prop} {xs : List α} {ys : List β} (h : Paired R xs ys) : xs.length = ys.length := by
  induction h with
  | nil => rfl
  | cons _ _ ih => rw [List.length_cons, List.length_cons, ih]
end
theorem inr_inj : ∀ a b : Str, (Sum.inr a : Key) = Sum.inr b → a = b := fun _ _ h => Sum.inr.inj h
theorem inl_inj : ∀ a b : Int, (Sum.inl a : Key) = Sum.inl b → a = b := fun _ _ h => Sum.inl.inj h
/-! ### data -/
section
variable {K : PySem.W.Frag} {H H' : Hp}
theorem dpAll_nil {xs : List V} (h : DpAll K H xs []) : xs = [] := by cases h; rfl
theorem dpAll_cons {xs : List V} {d : PyData} {ds : List PyData} (h : DpAll K H xs (d :: ds)) : ∃ v vs, xs = v :: vs ∧ Dp K H v d ∧ DpAll K H vs ds := by
  cases h with
  | cons a b => exact ⟨_, _, rfl, a, b⟩
theorem dp_str {v : V} {x : Str} (h : Dp K H v (.str x)) : v = .str x := by cases h; rfl
theorem dp_int {v : V} {x : Int} (h : Dp K H v (.int x)) : v = .int x := by cases h; rfl
theorem dp_bl {v : V} {x : Bool} (h : Dp K H v (.bool x)) : v = .bl x := by cases h; rfl
theorem dp_tup {v : V} {ds : List PyData} (h : Dp K H v (.tuple ds)) : ∃ a xs, v = .ref a ∧ SqT K H a xs ∧ DpAll K H xs ds := by
  cases h with
  | tup a b => exact ⟨_, _, rfl, a, b⟩
theorem dp_lst {v : V} {ds : List PyData} (h : Dp K H v (.list ds)) : ∃ a xs, v = .ref a ∧ SqL K H a xs ∧ DpAll K H xs ds := by
  cases h with
  | lst a b => exact ⟨_, _, rfl, a, b⟩
mutual
theorem dp_ex (e : Ex H H') : ∀ (d : PyData) {v : V}, Dp K H v d → Dp K H' v d
  | .none, _, h => by cases h; exact .non
  | .bool b, _, h => by cases h; exact .bl b
  | .int i, _, h => by cases h; exact .int i
  | .str x, _, h => by cases h; exact .str x
  | .list ds, _, h => by
    cases h with
    | lst hs ha => exact .lst (ex_l e hs) (dpAll_ex e ds ha)
  | .tuple ds, _, h => by
    cases h with
    | tup hs ha => exact .tup (ex_t e hs) (dpAll_ex e ds ha)
  | .dict _, _, h => by cases h
theorem dpAll_ex (e : Ex H H') : ∀ (ds : List PyData) {vs : List V}, DpAll K H vs ds → DpAll K H' vs ds
  | [], _, h => by cases h; exact .nil
  | d :: ds, _, h => by
    cases h with
    | cons a b => exact .cons (dp_ex e d a) (dpAll_ex e ds b)
end
theorem dpAll_len : ∀ {ds : List PyData} {vs : List V}, DpAll K H vs ds → vs.length = ds.length
  | [], _, h => by cases h; rfl
  | _ :: _, _, h => by
    cases h with
    | cons a b => rw [List.length_cons, List.length_cons, dpAll_len b]
theorem dpAll_get {ds : List PyData} {vs : List V} {i : Nat} {d : PyData} (h : DpAll K H vs ds) (e : ds[i]? = some d) : ∃ v, vs[i]? = some v ∧ Dp K H v d := by
  induction ds generalizing vs i with
  | nil => simp at e
  | cons d' ds ih =>
    obtain ⟨v, vs', rfl, a, b⟩ := dpAll_cons h
    cases i with
    | zero =>
      simp at e
      subst e
      exact ⟨v, by simp, a⟩
    | succ i =>
      simp at e
      obtain ⟨v', h1, h2⟩ := ih b e
      exact ⟨v', by simp [h1], h2⟩
theorem dpAll_snoc {ds : List PyData} {vs : List V} {d : PyData} {v : V} (h : DpAll K H vs ds) (a : Dp K H v d) : DpAll K H (vs ++ [v]) (ds ++ [d]) := by
  induction ds generalizing vs with
  | nil => rw [dpAll_nil h]; exact .cons a .nil
  | cons d' ds ih =>
    obtain ⟨v', vs', rfl, a', b⟩ := dpAll_cons h
    exact .cons a' (ih b)
theorem dpAll_ints (is : List Int) : DpAll K H (is.map V.int) (is.map PyData.int) := by
  induction is with
  | nil => exact .nil
  | cons i is ih => exact .cons (.int i) ih
theorem dpAll_strs (is : List Str) : DpAll K H (is.map V.str) (is.map PyData.str) := by
  induction is with
  | nil => exact .nil
  | cons i is ih => exact .cons (.str i) ih
theorem strs_of {is : List Str} {vs : List V} (h : DpAll K H vs (is.map PyData.str)) : vs = is.map V.str := by
  induction is generalizing vs with
  | nil => exact dpAll_nil h
  | cons i is ih =>
    obtain ⟨v, vs', rfl, a, b⟩ := dpAll_cons h
    rw [dp_str a, ih b]; rfl
theorem ints_of {is : List Int} {vs : List V} (h : DpAll K H vs (is.map PyData.int)) : vs = is.map V.int := by
  induction is generalizing vs with
  | nil => exact dpAll_nil h
  | cons i is ih =>
    obtain ⟨v, vs', rfl, a, b⟩ := dpAll_cons h
    rw [dp_int a, ih b]; rfl
theorem atI_nat {α : Type} {xs : List α} {i : Int} (h : 0 ≤ i) (h2 : i < xs.length) : atI xs i = xs[i.toNat]? := by
  unfold atI ixN
  rw [if_pos h, if_pos h2]; rfl
theorem atI_last {α : Type} (xs : List α) (x : α) : atI (xs ++ [x]) (-1) = some x := by
  unfold atI ixN
  rw [if_neg (by decide)]
  have e1 : -(((xs ++ [x]).length : Nat) : Int) ≤ -1 := by simp; omega
  have e2 : ((-1 : Int) + (((xs ++ [x]).length : Nat) : Int)).toNat = xs.length := by simp; omega
  rw [if_pos e1, e2]
  simp
end
end B72


set_option Elab.async false
set_option linter.all false
set_option maxRecDepth 100000
set_option maxHeartbeats 4000000
/-! B1: the machine as a plain function. -/
namespace B72
open PySem L2 Evl
abbrev Side := Sum Str Int
def Side.d : Side → PyData
  | .inl x => .str x
  | .inr i => .int i
/-- what a row does -/
inductive RA
  | set (x : Str) (n : Int) | sum (k x y : Str) (z : Side) | over (k x y z : Str) | mid (x y z : Str) | row (a x : Str) | get (x a p : Str) | put (a p x : Str) | len (x a : Str)
  | ask (x : Str) (l g : Int) | tell (x : Str) | chk (s : Side) (g : Str) (t : Side) | iff (s : Side) (g : Str) (t : Side) (j : Int) | go (j : Int) | call (x : Str) (h : Int) (gs : List Str) | back (x : Str)
def RA.kind : RA → Str
  | .set .. => "set" | .sum k .. => k | .over k .. => k | .mid .. => "mid" | .row .. => "row" | .get .. => "get" | .put .. => "put" | .len .. => "length"
  | .ask .. => "ask" | .tell .. => "tell" | .chk .. => "check" | .iff .. => "if" | .go .. => "go" | .call .. => "call" | .back .. => "back"
def RA.parts : RA → List PyData
  | .set x n => [.str x, .int n] | .sum _ x y z => [.str x, .str y, z.d] | .over _ x y z => [.str x, .str y, .str z] | .mid x y z => [.str x, .str y, .str z] | .row a x => [.str a, .str x]
  | .get x a p => [.str x, .str a, .str p] | .put a p x => [.str a, .str p, .str x] | .len x a => [.str x, .str a] | .ask x l g => [.str x, .int l, .int g] | .tell x => [.str x]
  | .chk s g t => [s.d, .str g, t.d] | .iff s g t j => [s.d, .str g, t.d, .int j] | .go j => [.int j] | .call x h gs => [.str x, .int h, .tuple (gs.map .str)] | .back x => [.str x]
structure Row where
  act : RA
  lab : Str × Int
  look : Bool
  on : Int
def placeD (p : Str × Int) : PyData := .tuple [.str p.1, .int p.2]
def Row.d (r : Row) : PyData := .tuple [.str r.act.kind, placeD r.lab, .bool r.look, .tuple r.act.parts, .int r.on]
structure Hd where
  params : List Str
  numbers : List Str
  rows : List Str
  first : Int
def Hd.d (h : Hd) : PyData := .tuple [.str "def", .tuple (h.params.map .str), .tuple (h.numbers.map .str), .tuple (h.rows.map .str), .int h.first]
inductive CR
  | st (w h : Int) | hd (h : Hd) | rw (r : Row)
def CR.d : CR → PyData
  | .st w h => .tuple [.str "start", .int w, .int h]
  | .hd h => h.d
  | .rw r => r.d
structure Fr where
  nums : List (Str × Int)
  lain : List (Str × (Int × Int))
  ahead : Int
  at_ : Int
structure PM where
  left : List Int
  mem : List (Int × Int)
  top : Int
  below : List Fr
  cur : Fr
  told : List Int
  many : Int
  looks : Int
structure Fin where
  told : List Int
  e : PyData
  many : Int
  looks : Int
inductive Out
  | go (s : PM) | fin (f : Fin)
def whys : List (Str × Str) := [("add", "great"), ("plus", "great"), ("minus", "great"), ("times", "great"), ("over", "nought"), ("rest", "nought"), ("row", "size"), ("get", "place"), ("put", "place"), ("check", "check")]
def whyOf (k : Str) : Str := (getA whys k).getD ""
def PM.num (s : PM) (x : Str) : Int := (getA s.cur.nums x).getD 0
def PM.side (s : PM) : Side → Int
  | .inl x => s.num x
  | .inr i => i
def PM.row (s : PM) (a : Str) : Int × Int := (getA s.cur.lain a).getD (0, 0)
def PM.setN (s : PM) (x : Str) (v : Int) : PM := { s with cur := { s.cur with nums := putA s.cur.nums x v } }
def PM.setL (s : PM) (a : Str) (v : Int × Int) : PM := { s with cur := { s.cur with lain := putA s.cur.lain a v } }
def PM.end_ (s : PM) (e : PyData) : Out := .fin ⟨s.told, e, s.many, s.looks⟩
def PM.look (s : PM) (r : Row) (wrong : Bool) (k : PM → Out) : Out :=
  if r.look = true then (if wrong = true then ({ s with looks := s.looks + 1 }).end_ (.tuple [.str "fault", .str (whyOf r.act.kind), placeD r.lab]) else k { s with looks := s.looks + 1 }) else k s
def laidM (m : List (Int × Int)) (t : Int) : List Int → List (Int × Int)
  | [] => m
  | v :: vs => laidM (putA m t v) (t + 1) vs
def PM.lay (s : PM) (vs : List Int) : PM := { s with mem := laidM s.mem s.top vs, top := s.top + vs.length }
def PM.cells (s : PM) (l : Int × Int) : List Int := (List.range l.2.toNat).map fun (k : Nat) => (getA s.mem (l.1 + (k : Int))).getD 0
def isSo (i : Int) (g : Str) (j : Int) : Bool := if g = "<" then decide (i < j) else decide (i ≤ j)
def sumF (k : Str) (i j : Int) : Int := if k = "times" then i * j else if k = "minus" then i - j else i + j
def frame0 (h : Hd) (top : Int) : Fr := ⟨h.numbers.foldl (fun acc x => putA acc x 0) [], h.rows.foldl (fun acc x => putA acc x (0, 0)) [], top, h.first⟩
/-- what a call hands over -/
def give1 (cur : Fr) (a : PM × Fr) (q : Str × Str) : PM × Fr := match getA cur.lain q.2 with
  | some l => (a.1.lay (a.1.cells l), { a.2 with lain := putA a.2.lain q.1 (a.1.top, l.2) })
  | none => (a.1, { a.2 with nums := putA a.2.nums q.1 ((getA cur.nums q.2).getD 0) })
def give (cur : Fr) (l : List (Str × Str)) (s : PM) (f : Fr) : PM × Fr := l.foldl (give1 cur) (s, f)
def rowAt (cs : List CR) (i : Int) : Option Row := match cs[i.toNat]? with
  | some (.rw r) => some r
  | _ => none
def headAt (cs : List CR) (i : Int) : Hd := match cs[i.toNat]? with
  | some (.hd h) => h
  | _ => ⟨[], [], [], 0⟩
def doAct (cs : List CR) (W : Int) (s : PM) (r : Row) : Out := match r.act with
  | .set x n => .go (s.setN x n)
  | .sum k x y z => let v := sumF k (s.num y) (s.side z)
    s.look r (!(decide (-W ≤ v) && decide (v ≤ W))) fun s => .go (s.setN x ((v + W).fmod (2 * W + 1) - W))
  | .over k x y z => s.look r (decide (s.num z = 0)) fun s => .go (s.setN x (if s.num z = 0 then 0 else if k = "over" then (s.num y).fdiv (s.num z) else (s.num y).fmod (s.num z)))
  | .mid x y z => .go (s.setN x ((s.num y + s.num z).fdiv 2))
  | .row a x => s.look r (decide (s.num x < 0)) fun s => .go ((s.lay (List.replicate (s.num x).toNat 0)).setL a (s.top, ((s.num x).toNat : Int)))
  | .get x a p => let l := s.row a; let i := s.num p
    s.look r (!(decide (0 ≤ i) && decide (i < l.2))) fun s => .go (s.setN x ((getA s.mem (l.1 + i)).getD 0))
  | .put a p x => let l := s.row a; let i := s.num p
    s.look r (!(decide (0 ≤ i) && decide (i < l.2))) fun s => .go { s with mem := putA s.mem (l.1 + i) (s.num x) }
  | .len x a => .go (s.setN x (s.row a).2)
  | .ask x l g => .go (({ s with left := s.left.tail }).setN x (l + ((s.left.head?.getD 0) - l).fmod (g - l + 1)))
  | .tell x => .go { s with told := s.told ++ [s.num x] }
  | .chk a g b => s.look r (!isSo (s.side a) g (s.side b)) fun s => .go s
  | .iff a g b j => .go (if isSo (s.side a) g (s.side b) = true then { s with cur := { s.cur with at_ := j } } else s)
  | .go j => .go { s with cur := { s.cur with at_ := j } }
  | .call _ h gs => if 20 < ((s.below.length + 1 : Nat) : Int) then s.end_ (.tuple [.str "fault", .str "deep", placeD r.lab]) else
      let hd := headAt cs h
      let p := give s.cur (hd.params.zip gs) s (frame0 hd s.top)
      .go { p.1 with below := s.cur :: s.below, cur := p.2 }
  | .back x => let v := s.num x
    match s.below with
    | [] => s.end_ (.tuple [.str "back", .int v])
    | f :: fs => .go { s with top := s.cur.ahead, below := fs, cur := { f with nums := putA f.nums (match rowAt cs (f.at_ - 1) with | some ⟨.call y _ _, _, _, _⟩ => y | _ => "") v } }
def step (cs : List CR) (W most : Int) (s : PM) : Out := match rowAt cs s.cur.at_ with
  | none => s.end_ .none
  | some r => if s.many = most then s.end_ (.tuple [.str "fault", .str "steps", placeD r.lab]) else doAct cs W { s with many := s.many + 1, cur := { s.cur with at_ := r.on } } r
def runN (cs : List CR) (W most : Int) : Nat → PM → Fin
  | 0, s => ⟨s.told, .none, s.many, s.looks⟩
  | n + 1, s => match step cs W most s with
    | .fin f => f
    | .go s => runN cs W most n s
def startAt (cs : List CR) : Int := match cs[0]? with
  | some (CR.st _ h) => h
  | _ => 0
def begin_ (cs : List CR) (words : List Int) : PM := ⟨words, [], 0, [], frame0 (headAt cs (startAt cs)) 0, [], 0, 0⟩
def wideOf (cs : List CR) : Int := match cs[0]? with
  | some (CR.st w _) => w
  | _ => 0
def runs (cs : List CR) (words : List Int) (most : Int) : Fin := runN cs (wideOf cs) most (most.toNat + 1) (begin_ cs words)
def Fin.d (f : Fin) : PyData := .tuple [.tuple (f.told.map .int), f.e, .int f.many, .int f.looks]
/-! ### what holds of a machine that runs -/
def U7 : List Str := ["x", "y", "z", "p", "q", "a", "b"]
def sumKs : List Str := ["add", "plus", "minus", "times"]
def SideOk (W : Int) (hd : Hd) : Side → Prop
  | .inl x => x ∈ hd.numbers
  | .inr i => -W ≤ i ∧ i ≤ W
/-- next and jumps: rows of the same head -/
def Goes (cs : List CR) (ty : Int → Option Hd) (hd : Hd) (j : Int) : Prop := 0 ≤ j ∧ (∃ r, cs[j.toNat]? = some (.rw r)) ∧ ty j = some hd
def RowOk (cs : List CR) (ty : Int → Option Hd) (W : Int) (hd : Hd) (r : Row) : Prop := match r.act with
  | .set x n => x ∈ hd.numbers ∧ -W ≤ n ∧ n ≤ W ∧ Goes cs ty hd r.on
  | .sum k x y z => k ∈ sumKs ∧ x ∈ hd.numbers ∧ y ∈ hd.numbers ∧ SideOk W hd z ∧ Goes cs ty hd r.on
  | .over k x y z => (k = "over" ∨ k = "rest") ∧ x ∈ hd.numbers ∧ y ∈ hd.numbers ∧ z ∈ hd.numbers ∧ Goes cs ty hd r.on
  | .mid x y z => x ∈ hd.numbers ∧ y ∈ hd.numbers ∧ z ∈ hd.numbers ∧ Goes cs ty hd r.on
  | .row a x => a ∈ hd.rows ∧ x ∈ hd.numbers ∧ Goes cs ty hd r.on
  | .get x a p => x ∈ hd.numbers ∧ a ∈ hd.rows ∧ p ∈ hd.numbers ∧ Goes cs ty hd r.on
  | .put a p x => a ∈ hd.rows ∧ p ∈ hd.numbers ∧ x ∈ hd.numbers ∧ Goes cs ty hd r.on
  | .len x a => x ∈ hd.numbers ∧ a ∈ hd.rows ∧ Goes cs ty hd r.on
  | .ask x l g => x ∈ hd.numbers ∧ -W ≤ l ∧ l ≤ g ∧ g ≤ W ∧ Goes cs ty hd r.on
  | .tell x => x ∈ hd.numbers ∧ Goes cs ty hd r.on
  | .chk a g b => SideOk W hd a ∧ SideOk W hd b ∧ Goes cs ty hd r.on
  | .iff a g b j => SideOk W hd a ∧ SideOk W hd b ∧ Goes cs ty hd r.on ∧ Goes cs ty hd j
  | .go j => Goes cs ty hd j
  | .call x h gs => x ∈ hd.numbers ∧ Goes cs ty hd r.on ∧ (∀ g ∈ gs, g ∈ hd.numbers ∨ g ∈ hd.rows) ∧ 0 ≤ h ∧ ∃ hd', cs[h.toNat]? = some (.hd hd') ∧ hd'.params.length = gs.length ∧ Goes cs ty hd' hd'.first
  | .back x => x ∈ hd.numbers
structure CodeOk (cs : List CR) (ty : Int → Option Hd) (W : Int) : Prop where
  w : 1 ≤ W ∧ W ≤ 31
  len : cs.length < 1000000
  start : ∃ h hd, cs[0]? = some (.st W h) ∧ 0 ≤ h ∧ cs[h.toNat]? = some (.hd hd) ∧ Goes cs ty hd hd.first
  rows : ∀ (i : Nat) (r : Row), cs[i]? = some (.rw r) → r.on = (i : Int) + 1 ∧ (r.look = true → ∃ y, getA whys r.act.kind = some y) ∧ ∃ hd, ty (i : Int) = some hd ∧ RowOk cs ty W hd r
  heads : ∀ (i : Nat) (hd : Hd), cs[i]? = some (.hd hd) → hd.params.length ≤ 7 ∧ hd.numbers.length ≤ 7 ∧ hd.rows.length ≤ 7
structure FrOk (cs : List CR) (ty : Int → Option Hd) (W : Int) (hd : Hd) (f : Fr) : Prop where
  nk : ∀ x ∈ hd.numbers, x ∈ keysA f.nums
  lk : ∀ x ∈ hd.rows, x ∈ keysA f.lain
  nv : ∀ e ∈ f.nums, -W ≤ e.2 ∧ e.2 ≤ W
  lv : ∀ e ∈ f.lain, 0 ≤ e.2.2 ∧ e.2.2 ≤ W
  nl : f.nums.length ≤ 20
  ll : f.lain.length ≤ 20
/-- a frame whose call is under way -/
def Waits (cs : List CR) (ty : Int → Option Hd) (W : Int) (f : Fr) : Prop := ∃ hd x h gs l k o, FrOk cs ty W hd f ∧ Goes cs ty hd f.at_ ∧ 1 ≤ f.at_ ∧ rowAt cs (f.at_ - 1) = some ⟨.call x h gs, l, k, o⟩ ∧ x ∈ hd.numbers
structure PmOk (cs : List CR) (ty : Int → Option Hd) (W most : Int) (s : PM) : Prop where
  cur : ∃ hd, FrOk cs ty W hd s.cur ∧ Goes cs ty hd s.cur.at_
  bel : ∀ f ∈ s.below, Waits cs ty W f
  blen : s.below.length ≤ 20
  many : 0 ≤ s.many ∧ s.many ≤ most ∧ most ≤ 1000
  ml : (s.mem.length : Int) ≤ 1000 * s.many
  mv : ∀ e ∈ s.mem, -W ≤ e.2 ∧ e.2 ≤ W
  tl : (s.told.length : Int) ≤ s.many
  tv : ∀ v ∈ s.told, -W ≤ v ∧ v ≤ W
  ll : s.left.length ≤ 1000
  lk : 0 ≤ s.looks ∧ s.looks ≤ s.many
end B72


set_option Elab.async false
set_option linter.all false
set_option maxRecDepth 100000
set_option maxHeartbeats 4000000
/-! B2: the machine's objects in the heap; what its defs do to them. -/
namespace B72
open PySem L2 Evl R72
def doings1 : List (Str × Str) := [("set", "on_set"), ("add", "on_sum"), ("plus", "on_sum"), ("minus", "on_sum"), ("times", "on_sum"), ("over", "on_over"), ("rest", "on_over"), ("mid", "on_mid"), ("row", "on_row"), ("get", "on_get")]
def doings2 : List (Str × Str) := [("put", "on_put"), ("length", "on_length"), ("ask", "on_ask"), ("tell", "on_tell"), ("check", "on_check"), ("if", "on_if"), ("go", "on_go"), ("call", "on_call"), ("back", "on_back")]
def partsT : List (Str × Str) := ([("set", "nk"), ("add", "nnk"), ("plus", "ppp"), ("minus", "ppp"), ("times", "ppp"), ("over", "ppp"), ("rest", "ppp"), ("mid", "nnn"), ("row", "an"), ("get", "pan")] : List (Str × Str)) ++
  ([("put", "ann"), ("length", "na"), ("ask", "pkk"), ("tell", "n"), ("check", "sos"), ("if", "sosl"), ("go", "l"), ("call", "pfg"), ("back", "n")] : List (Str × Str))
structure PF (K : PySem.W.Frag) (w : World) : Prop where
  cF : Cls K (He.ga K "Frame")
  fAhead : NoAttr K (He.ga K "Frame") "ahead"
  fAt : NoAttr K (He.ga K "Frame") "at"
  fLain : NoAttr K (He.ga K "Frame") "lain"
  fNums : NoAttr K (He.ga K "Frame") "numbers"
  cM : Cls K (He.ga K "Machine")
  mCode : NoAttr K (He.ga K "Machine") "code"
  mEnd : NoAttr K (He.ga K "Machine") "end"
  mFrames : NoAttr K (He.ga K "Machine") "frames"
  mLeft : NoAttr K (He.ga K "Machine") "left"
  mLooks : NoAttr K (He.ga K "Machine") "looks"
  mMany : NoAttr K (He.ga K "Machine") "many"
  mMem : NoAttr K (He.ga K "Machine") "memory"
  mMost : NoAttr K (He.ga K "Machine") "most"
  mTold : NoAttr K (He.ga K "Machine") "told"
  mTop : NoAttr K (He.ga K "Machine") "top"
  mWide : NoAttr K (He.ga K "Machine") "wide"
  doing : ∀ k f, (k, f) ∈ doings1 ∨ (k, f) ∈ doings2 → KDct K w (He.ga K "DOINGS") k (.ref (He.ga K f))
  parts : ∀ k v, getA partsT k = some v → KDct K w (He.ga K "PARTS") k (.str v)
  why : ∀ k v, getA whys k = some v → KDct K w (He.ga K "WHYS") k (.str v)
structure MC where
  m : Addr
  dx : Addr
  code : Addr
  left : Addr
  mem : Addr
  frs : Addr
  told : Addr
  wide : Int
  most : Int
  fl : List V
structure FA where
  a : Addr
  dx : Addr
  n : Addr
  l : Addr
  kv : List (Key × V)
def mF (c : MC) (top many looks : Int) (e : V) : List (Str × V) :=
  [("code", .ref c.code), ("wide", .int c.wide), ("left", .ref c.left), ("most", .int c.most), ("memory", .ref c.mem), ("top", .int top), ("frames", .ref c.frs), ("told", .ref c.told), ("many", .int many), ("looks", .int looks), ("end", e)]
def fF (fa : FA) (ahead at_ : Int) : List (Str × V) := [("numbers", .ref fa.n), ("lain", .ref fa.l), ("ahead", .int ahead), ("at", .int at_)]
section
variable {c : MC} {fa : FA} {top many looks ahead at_ i : Int} {e v : V}
theorem mF_code : (mF c top many looks e).lookup (("code" : String) : Str) = some (.ref c.code) := rfl
theorem mF_wide : (mF c top many looks e).lookup (("wide" : String) : Str) = some (.int c.wide) := rfl
theorem mF_left : (mF c top many looks e).lookup (("left" : String) : Str) = some (.ref c.left) := rfl
theorem mF_most : (mF c top many looks e).lookup (("most" : String) : Str) = some (.int c.most) := rfl
theorem mF_mem : (mF c top many looks e).lookup (("memory" : String) : Str) = some (.ref c.mem) := rfl
theorem mF_top : (mF c top many looks e).lookup (("top" : String) : Str) = some (.int top) := rfl
theorem mF_frs : (mF c top many looks e).lookup (("frames" : String) : Str) = some (.ref c.frs) := rfl
theorem mF_told : (mF c top many looks e).lookup (("told" : String) : Str) = some (.ref c.told) := rfl
theorem mF_many : (mF c top many looks e).lookup (("many" : String) : Str) = some (.int many) := rfl
theorem mF_looks : (mF c top many looks e).lookup (("looks" : String) : Str) = some (.int looks) := rfl
theorem mF_end : (mF c top many looks e).lookup (("end" : String) : Str) = some e := rfl
theorem mF_m1 : (mF c top many looks e).lookup (("fails" : String) : Str) = none := rfl
theorem mF_m2 : (mF c top many looks e).lookup (("laid" : String) : Str) = none := rfl
theorem mF_m3 : (mF c top many looks e).lookup (("cells" : String) : Str) = none := rfl
theorem mF_m4 : (mF c top many looks e).lookup (("step" : String) : Str) = none := rfl
theorem mF_len : (mF c top many looks e).length < 1000 := by show 11 < 1000; decide
theorem mP_top : putF "top" (.int i) (mF c top many looks e) = mF c i many looks e := rfl
theorem mP_many : putF "many" (.int i) (mF c top many looks e) = mF c top i looks e := rfl
theorem mP_looks : putF "looks" (.int i) (mF c top many looks e) = mF c top many i e := rfl
theorem mP_end : putF "end" v (mF c top many looks e) = mF c top many looks v := rfl
theorem fF_nums : (fF fa ahead at_).lookup (("numbers" : String) : Str) = some (.ref fa.n) := rfl
theorem fF_lain : (fF fa ahead at_).lookup (("lain" : String) : Str) = some (.ref fa.l) := rfl
theorem fF_ahead : (fF fa ahead at_).lookup (("ahead" : String) : Str) = some (.int ahead) := rfl
theorem fF_at : (fF fa ahead at_).lookup (("at" : String) : Str) = some (.int at_) := rfl
theorem fP_at : putF "at" (.int i) (fF fa ahead at_) = fF fa ahead i := rfl
theorem fF_len : (fF fa ahead at_).length < 1000 := by show 4 < 1000; decide
end
def kvN (e : Str × Int) : Key × V := (.inr e.1, .int e.2)
def kvM (e : Int × Int) : Key × V := (.inl e.1, .int e.2)
def fcells (K : PySem.W.Frag) (fa : FA) (f : Fr) : List (Addr × HO) := [(fa.a, .ins (He.ga K "Frame") fa.dx (fF fa f.ahead f.at_)), (fa.n, .dK (f.nums.map kvN)), (fa.l, .dK fa.kv)]
def bcells (K : PySem.W.Frag) : List FA → List Fr → List (Addr × HO)
  | fa :: fas, f :: fs => fcells K fa f ++ bcells K fas fs
  | _, _ => []
def cells (K : PySem.W.Frag) (c : MC) (fa : FA) (fas : List FA) (s : PM) (e : V) : List (Addr × HO) :=
  (c.m, .ins (He.ga K "Machine") c.dx (mF c s.top s.many s.looks e)) :: (c.left, .lst (s.left.map V.int)) :: (c.mem, .dK (s.mem.map kvM)) :: (c.frs, .lst c.fl) :: (c.told, .lst (s.told.map V.int)) ::
    (fcells K fa s.cur ++ bcells K fas s.below)
def LR (G : Hp) : V → Int × Int → Prop := fun v p => ∃ t, v = .ref t ∧ G t = some (.tup [.int p.1, .int p.2])
abbrev LP (G : Hp) (kvs : List (Key × V)) (es : List (Str × (Int × Int))) : Prop := Paired (fun kv e => kv.1 = Sum.inr e.1 ∧ LR G kv.2 e.2) kvs es
theorem Paired.imp {α β : Type} {R S : α → β → Prop} (h : ∀ a b, R a b → S a b) {xs : List α} {ys : List β} (p : Paired R xs ys) : Paired S xs ys := by
  induction p with
  | nil => exact .nil
  | cons a _ ih => exact .cons (h _ _ a) ih
theorem LP.ex {G G' : Hp} {kvs : List (Key × V)} {es : List (Str × (Int × Int))} (e : Ex G G') (h : LP G kvs es) : LP G' kvs es := Paired.imp (fun _ _ ⟨a, t, b, d⟩ => ⟨a, t, b, e _ _ d⟩) h
/-- what is known and stays (G), what may change (M) -/
structure Held (G : Hp) (M : List (Addr × HO)) (H : Hp) : Prop where
  ex : Ex G H
  cl : ∀ x ∈ M, H x.1 = some x.2
  nd : (M.map (·.1)).Nodup
  gone : ∀ a ∈ M.map (·.1), G a = none
theorem cells_upd {H : Hp} {cs1 cs2 : List (Addr × HO)} {p : Addr} {o o' : HO} (h : ∀ x ∈ cs1 ++ (p, o) :: cs2, H x.1 = some x.2) (nd : ((cs1 ++ (p, o) :: cs2).map (·.1)).Nodup) : ∀ x ∈ cs1 ++ (p, o') :: cs2, upd H p o' x.1 = some x.2 := by
  intro x hx
  rw [List.map_append, List.map_cons] at nd
  have nd2 := List.nodup_append.mp nd
  have nd3 := List.nodup_cons.mp nd2.2.1
  rcases List.mem_append.mp hx with q | q
  · have ne : x.1 ≠ p := nd2.2.2 x.1 (List.mem_map_of_mem (f := (·.1)) q) p (by simp)
    rw [upd_ne ne]
    exact h x (List.mem_append_left _ q)
  · rcases List.mem_cons.mp q with q | q
    · subst q; exact upd_same
    · have ne : x.1 ≠ p := fun z => nd3.1 (by rw [← z]; exact List.mem_map_of_mem (f := (·.1)) q)
      rw [upd_ne ne]
      exact h x (List.mem_append_right _ (List.mem_cons_of_mem _ q))
section
variable {G G' H H' : Hp} {M M' : List (Addr × HO)}
theorem Held.nil (h : Ex G H) : Held G [] H := ⟨h, fun _ z => (by cases z), List.nodup_nil, fun _ z => (by cases z)⟩
theorem Held.chg (I : Held G M H) (c1 : List (Addr × HO)) {c2 : List (Addr × HO)} {p : Addr} {o o' : HO} (h0 : M = c1 ++ (p, o) :: c2) : Held G (c1 ++ (p, o') :: c2) (upd H p o') := by
  have em : (c1 ++ (p, o') :: c2).map (·.1) = M.map (·.1) := by rw [h0]; simp
  have hp : G p = none := I.gone p (by rw [h0]; simp)
  refine ⟨I.ex.mut hp, ?_, by rw [em]; exact I.nd, by rw [em]; exact I.gone⟩
  have cl := I.cl
  have nd := I.nd
  rw [h0] at cl nd
  exact cells_upd cl nd
theorem Held.grow (I : Held G M H) (h : Ex H H') : Held G M H' := ⟨I.ex.trans h, fun x hx => h _ _ (I.cl x hx), I.nd, I.gone⟩
theorem Held.know (I : Held G M H) (h2 : Ex G' H) (hg : ∀ a ∈ M.map (·.1), G' a = none) : Held G' M H := ⟨h2, I.cl, I.nd, hg⟩
theorem Held.fresh (I : Held G M H) {t : Addr} (h : H t = none) : t ∉ M.map (·.1) := fun hx => by
  obtain ⟨x, hx, ex⟩ := List.mem_map.mp hx
  have := I.cl x hx
  rw [ex, h] at this
  cases this
theorem Held.new (I : Held G M H) {t : Addr} {o : HO} (h : H t = none) : Held G (M ++ [(t, o)]) (upd H t o) := by
  have ht : G t = none := fresh_back I.ex h
  have nf := I.fresh h
  refine ⟨I.ex.trans (Ex.new h), fun x hx => ?_, ?_, fun a ha => ?_⟩
  · rcases List.mem_append.mp hx with q | q
    · exact Ex.new h _ _ (I.cl x q)
    · rw [List.mem_singleton.mp q]; exact upd_same
  · rw [List.map_append]
    refine List.nodup_append.mpr ⟨I.nd, by simp, fun a ha b hb => ?_⟩
    have eb : b = t := by simpa using hb
    subst eb
    exact fun q => nf (q ▸ ha)
  · rw [List.map_append] at ha
    rcases List.mem_append.mp ha with q | q
    · exact I.gone a q
    · have ea : a = t := by simpa using q
      rw [ea]; exact ht
/-- a new thing that stays -/
theorem Held.tup (I : Held G M H) {t : Addr} {o : HO} (h : H t = none) : Held (upd G t o) M (upd H t o) := by
  have I1 := I.grow (Ex.new (o := o) h)
  refine I1.know (fun a u ha => ?_) fun a ha => ?_
  · by_cases q : a = t
    · subst q; rw [upd_same] at ha ⊢; exact ha
    · rw [upd_ne q] at ha ⊢; exact I.ex a u ha
  · have ne : a ≠ t := fun q => I.fresh h (q ▸ ha)
    rw [upd_ne ne]
    exact I.gone a ha
theorem Held.perm (I : Held G M H) (p : M.Perm M') : Held G M' H := ⟨I.ex, fun x hx => I.cl x (p.mem_iff.mpr hx), (p.map (·.1)).nodup_iff.mp I.nd, fun a ha => I.gone a ((p.map (·.1)).mem_iff.mpr ha)⟩
theorem Held.sub (I : Held G M H) (p : M'.Sublist M) : Held G M' H := ⟨I.ex, fun x hx => I.cl x (p.subset hx), (p.map (·.1)).nodup I.nd, fun a ha => I.gone a ((p.map (·.1)).subset ha)⟩
/-- all that is known but M -/
def hide (as : List Addr) (H : Hp) : Hp := fun a => if a ∈ as then none else H a
theorem Held.most (I : Held G M H) : Held (hide (M.map (·.1)) H) M H ∧ Ex G (hide (M.map (·.1)) H) := by
  refine ⟨I.know (fun a u ha => ?_) fun a ha => ?_, fun a u ha => ?_⟩
  · unfold hide at ha
    split at ha
    · cases ha
    · exact ha
  · unfold hide; rw [if_pos ha]
  · unfold hide
    rw [if_neg (fun q => by rw [I.gone a q] at ha; cases ha)]
    exact I.ex a u ha
end
structure MI (K : PySem.W.Frag) (G H : Hp) (c : MC) (fa : FA) (fas : List FA) (s : PM) (e : V) : Prop extends Held G (cells K c fa fas s e) H where
  lr : LP G fa.kv s.cur.lain
  bl : Paired (fun fa f => LP G fa.kv f.lain) fas s.below
section
variable {K : PySem.W.Frag} {w : World} {G G' H H' : Hp} {c c' : MC} {fa fa' : FA} {fas fas' : List FA} {s s' : PM} {e e' : V}
theorem MI.chg (I : MI K G H c fa fas s e) (c1 : List (Addr × HO)) {c2 : List (Addr × HO)} {p : Addr} {o o' : HO} (h0 : cells K c fa fas s e = c1 ++ (p, o) :: c2) (h1 : cells K c' fa' fas' s' e' = c1 ++ (p, o') :: c2)
    (lr : LP G fa'.kv s'.cur.lain) (bl : Paired (fun fa f => LP G fa.kv f.lain) fas' s'.below) : MI K G (upd H p o') c' fa' fas' s' e' :=
  ⟨by rw [h1]; exact I.toHeld.chg c1 h0, lr, bl⟩
/-- the heap grows -/
theorem MI.grow (I : MI K G H c fa fas s e) (h : Ex H H') : MI K G H' c fa fas s e := ⟨I.toHeld.grow h, I.lr, I.bl⟩
/-- something new is known that the machine's objects aren't -/
theorem MI.know (I : MI K G H c fa fas s e) (h : Ex G G') (h2 : Ex G' H) (hg : ∀ a ∈ (cells K c fa fas s e).map (·.1), G' a = none) : MI K G' H c fa fas s e := ⟨I.toHeld.know h2 hg, I.lr.ex h, Paired.imp (fun _ _ q => LP.ex h q) I.bl⟩
/-- a new tuple -/
theorem MI.tup (I : MI K G H c fa fas s e) {t : Addr} {o : HO} (h : H t = none) : MI K (upd G t o) (upd H t o) c fa fas s e :=
  have ht : Ex G (upd G t o) := Ex.new (fresh_back I.ex h)
  ⟨I.toHeld.tup h, I.lr.ex ht, Paired.imp (fun _ _ q => LP.ex ht q) I.bl⟩
section
variable (I : MI K G H c fa fas s e)
include I
theorem MI.hm : H c.m = some (.ins (He.ga K "Machine") c.dx (mF c s.top s.many s.looks e)) := I.cl _ (List.mem_cons_self ..)
theorem MI.hleft : H c.left = some (.lst (s.left.map V.int)) := I.cl (c.left, _) (by simp [cells])
theorem MI.hmem : H c.mem = some (.dK (s.mem.map kvM)) := I.cl (c.mem, _) (by simp [cells])
theorem MI.hfrs : H c.frs = some (.lst c.fl) := I.cl (c.frs, _) (by simp [cells])
theorem MI.htold : H c.told = some (.lst (s.told.map V.int)) := I.cl (c.told, _) (by simp [cells])
theorem MI.ha : H fa.a = some (.ins (He.ga K "Frame") fa.dx (fF fa s.cur.ahead s.cur.at_)) := I.cl (fa.a, _) (by simp [cells, fcells])
theorem MI.hn : H fa.n = some (.dK (s.cur.nums.map kvN)) := I.cl (fa.n, _) (by simp [cells, fcells])
theorem MI.hl : H fa.l = some (.dK fa.kv) := I.cl (fa.l, _) (by simp [cells, fcells])
end
/-! numbers, rows, memory -/
theorem MI.getN (I : MI K G H c fa fas s e) {x : Str} (h : x ∈ keysA s.cur.nums) : DGet H fa.n (.str x) (some (.int (s.num x))) := by
  obtain ⟨v, hv, _⟩ := get_some h
  have g := DGet.k (k := Sum.inr x) I.hn
  have ev : valV (s.cur.nums.map kvN) (Sum.inr x) = (getA s.cur.nums x).map V.int := valV_map inr_inj _ _
  rw [ev, hv] at g
  have en : s.num x = v := by unfold PM.num; rw [hv]; rfl
  rw [en]
  exact g
theorem MI.getL (I : MI K G H c fa fas s e) {x : Str} (h : x ∈ keysA s.cur.lain) : ∃ t, DGet H fa.l (.str x) (some (.ref t)) ∧ SqT K H t [.int (s.row x).1, .int (s.row x).2] := by
  have g := DGet.k (k := Sum.inr x) I.hl
  rcases paired_val (f := Sum.inr) inr_inj I.lr x with ⟨q, _⟩ | ⟨v, a, h1, h2, t, rfl, ht⟩
  · obtain ⟨v, hv, _⟩ := get_some h
    rw [q] at hv; cases hv
  · rw [h2] at g
    have en : s.row x = a := by unfold PM.row; rw [h1]; rfl
    rw [en]
    exact ⟨t, g, st_of (I.ex _ _ ht)⟩
theorem MI.getM (I : MI K G H c fa fas s e) (i : Int) : DGet H c.mem (.int i) ((getA s.mem i).map V.int) := by
  have g := DGet.k (k := Sum.inl i) I.hmem
  have ev : valV (s.mem.map kvM) (Sum.inl i) = (getA s.mem i).map V.int := valV_map inl_inj _ _
  rw [ev] at g
  exact g
theorem MI.setN (I : MI K G H c fa fas s e) (x : Str) (v : Int) : MI K G (upd H fa.n (.dK (putK (s.cur.nums.map kvN) (Sum.inr x) (.int v)))) c fa fas (s.setN x v) e := by
  have ep : putK (s.cur.nums.map kvN) (Sum.inr x) (.int v) = (putA s.cur.nums x v).map kvN := putK_map (f := Sum.inr) (g := V.int) inr_inj _ _ _
  rw [ep]
  exact I.chg [_, _, _, _, _, _] rfl rfl I.lr I.bl
theorem MI.setM (I : MI K G H c fa fas s e) (i : Int) (v : Int) : MI K G (upd H c.mem (.dK (putK (s.mem.map kvM) (Sum.inl i) (.int v)))) c fa fas { s with mem := putA s.mem i v } e := by
  have ep : putK (s.mem.map kvM) (Sum.inl i) (.int v) = (putA s.mem i v).map kvM := putK_map (f := Sum.inl) (g := V.int) inl_inj _ _ _
  rw [ep]
  exact I.chg [_, _] rfl rfl I.lr I.bl
theorem MI.setL (I : MI K G H c fa fas s e) (x : Str) {t : Addr} {p : Int × Int} (ht : G t = some (.tup [.int p.1, .int p.2])) :
    MI K G (upd H fa.l (.dK (putK fa.kv (Sum.inr x) (.ref t)))) c { fa with kv := putK fa.kv (Sum.inr x) (.ref t) } fas (s.setL x p) e :=
  I.chg (fa' := { fa with kv := putK fa.kv (Sum.inr x) (.ref t) }) [_, _, _, _, _, _, _] rfl rfl (paired_put (f := Sum.inr) inr_inj I.lr x ⟨t, rfl, ht⟩) I.bl
theorem MI.setM1 (I : MI K G H c fa fas s e) (top many looks : Int) (e' : V) : MI K G (upd H c.m (.ins (He.ga K "Machine") c.dx (mF c top many looks e'))) c fa fas { s with top := top, many := many, looks := looks } e' := I.chg [] rfl rfl I.lr I.bl
theorem MI.setAt (I : MI K G H c fa fas s e) (j : Int) : MI K G (upd H fa.a (.ins (He.ga K "Frame") fa.dx (fF fa s.cur.ahead j))) c fa fas { s with cur := { s.cur with at_ := j } } e := I.chg [_, _, _, _, _] rfl rfl I.lr I.bl
theorem MI.setTold (I : MI K G H c fa fas s e) (v : Int) : MI K G (upd H c.told (.lst (s.told.map V.int ++ [.int v]))) c fa fas { s with told := s.told ++ [v] } e := by
  have ep : s.told.map V.int ++ [.int v] = (s.told ++ [v]).map V.int := by simp
  rw [ep]
  exact I.chg [_, _, _, _] rfl rfl I.lr I.bl
theorem MI.setLeft (I : MI K G H c fa fas s e) (l : List Int) : MI K G (upd H c.left (.lst (l.map V.int))) c fa fas { s with left := l } e := I.chg [_] rfl rfl I.lr I.bl
end
/-- the machine is at its end -/
def Done (K : PySem.W.Frag) (G H : Hp) (c : MC) (f : Fin) : Prop := Ex G H ∧ ∃ top a, H c.m = some (.ins (He.ga K "Machine") c.dx (mF c top f.many f.looks (.ref a))) ∧ Dp K G (.ref a) f.e ∧ H c.told = some (.lst (f.told.map V.int))
/-- a row as it lies -/
structure RI (K : PySem.W.Frag) (G : Hp) (row pl pa : Addr) (xs : List V) (r : Row) : Prop where
  hr : SqT K G row [.str r.act.kind, .ref pl, .bl r.look, .ref pa, .int r.on]
  hpl : SqT K G pl [.str r.lab.1, .int r.lab.2]
  hpa : SqT K G pa xs
  hx : DpAll K G xs r.act.parts
theorem ri_of {K : PySem.W.Frag} {G : Hp} {v : V} {r : Row} (h : Dp K G v r.d) : ∃ row pl pa xs, v = .ref row ∧ RI K G row pl pa xs r := by
  obtain ⟨row, ys, rfl, h1, h2⟩ := dp_tup h
  obtain ⟨v1, ys, rfl, a1, h2⟩ := dpAll_cons h2
  obtain ⟨v2, ys, rfl, a2, h2⟩ := dpAll_cons h2
  obtain ⟨v3, ys, rfl, a3, h2⟩ := dpAll_cons h2
  obtain ⟨v4, ys, rfl, a4, h2⟩ := dpAll_cons h2
  obtain ⟨v5, ys, rfl, a5, h2⟩ := dpAll_cons h2
  rw [dpAll_nil h2] at h1
  rw [dp_str a1, dp_bl a3, dp_int a5] at h1
  obtain ⟨pl, zs, rfl, b1, b2⟩ := dp_tup a2
  obtain ⟨w1, zs, rfl, c1, b2⟩ := dpAll_cons b2
  obtain ⟨w2, zs, rfl, c2, b2⟩ := dpAll_cons b2
  rw [dpAll_nil b2, dp_str c1, dp_int c2] at b1
  obtain ⟨pa, xs, rfl, d1, d2⟩ := dp_tup a4
  exact ⟨row, pl, pa, xs, rfl, h1, b1, d1, d2⟩
section
variable {K : PySem.W.Frag} {w : World} {G G' H H' : Hp} {c : MC} {fa fa' : FA} {fas : List FA} {s s' : PM} {row pl pa : Addr} {xs : List V} {r : Row} {Q : VK} {E : XK}
theorem RI.at0 (R : RI K G row pl pa xs r) (e : Ex G H) {σ : L2.St} {te : TE} (h : Pv te σ H (.ref row)) : Pv (tOp (rIx K) te (tC (.int 0))) σ H (.str r.act.kind) := pv_op h pv_c (pr_ixt (ex_t e R.hr) rfl)
theorem RI.at1 (R : RI K G row pl pa xs r) (e : Ex G H) {σ : L2.St} {te : TE} (h : Pv te σ H (.ref row)) : Pv (tOp (rIx K) te (tC (.int 1))) σ H (.ref pl) := pv_op h pv_c (pr_ixt (ex_t e R.hr) rfl)
theorem RI.at2 (R : RI K G row pl pa xs r) (e : Ex G H) {σ : L2.St} {te : TE} (h : Pv te σ H (.ref row)) : Pv (tOp (rIx K) te (tC (.int 2))) σ H (.bl r.look) := pv_op h pv_c (pr_ixt (ex_t e R.hr) rfl)
theorem RI.at3 (R : RI K G row pl pa xs r) (e : Ex G H) {σ : L2.St} {te : TE} (h : Pv te σ H (.ref row)) : Pv (tOp (rIx K) te (tC (.int 3))) σ H (.ref pa) := pv_op h pv_c (pr_ixt (ex_t e R.hr) rfl)
theorem RI.at4 (R : RI K G row pl pa xs r) (e : Ex G H) {σ : L2.St} {te : TE} (h : Pv te σ H (.ref row)) : Pv (tOp (rIx K) te (tC (.int 4))) σ H (.int r.on) := pv_op h pv_c (pr_ixt (ex_t e R.hr) rfl)
theorem RI.ex (R : RI K G row pl pa xs r) (e : Ex G G') : RI K G' row pl pa xs r := ⟨ex_t e R.hr, ex_t e R.hpl, ex_t e R.hpa, dpAll_ex e _ R.hx⟩
/-- an end told by three words -/
theorem done3 (I : MI K G H c fa fas s .non) (R : RI K G row pl pa xs r) (x : Str) {t : Addr} (ht : H t = none) (many looks : Int) :
    Done K (upd G t (.tup [.str "fault", .str x, .ref pl])) (upd (upd H t (.tup [.str "fault", .str x, .ref pl])) c.m (.ins (He.ga K "Machine") c.dx (mF c s.top many looks (.ref t)))) c ⟨s.told, .tuple [.str "fault", .str x, placeD r.lab], many, looks⟩ := by
  have I1 := I.tup (o := .tup [.str "fault", .str x, .ref pl]) ht
  have I2 := I1.setM1 s.top many looks (.ref t)
  have hG : Ex G (upd G t (.tup [.str "fault", .str x, .ref pl])) := Ex.new (fresh_back I.ex ht)
  exact ⟨I2.ex, s.top, t, I2.hm, .tup (st_of upd_same) (.cons (.str _) (.cons (.str _) (.cons (.tup (ex_t hG R.hpl) (.cons (.str _) (.cons (.int _) .nil))) .nil))), I2.htold⟩
theorem s_fails (P : PF K w) (I : MI K G H c fa fas s .non) (R : RI K G row pl pa xs r) {wrong : Bool} (hw : r.look = true → ∃ y, getA whys r.act.kind = some y)
    (k0 : r.look = false → Q (.bl false) H) (k1 : r.look = true → wrong = false → ∀ H', MI K G H' c fa fas { s with looks := s.looks + 1 } .non → Q (.bl false) H')
    (k2 : r.look = true → wrong = true → ∀ G' H', Ex G G' → Done K G' H' c ⟨s.told, .tuple [.str "fault", .str (whyOf r.act.kind), placeD r.lab], s.many, s.looks + 1⟩ → Q (.bl true) H') :
    sp_Machine_fails K w [.ref c.m, .ref row, .bl wrong] H Q E := by
  refine ⟨rfl, ?_⟩
  unfold t_Machine_fails
  refine a_if (pt_not (pt_B (R.at2 I.ex (pv_var rfl)))) (fun hl => a_ret pv_c (k0 (by simpa using hl))) fun hl => ?_
  have hl : r.look = true := by simpa using hl
  refine a_aug1 (pv_var rfl) I.hm P.cM P.mLooks mF_looks mF_len ?_
  rw [mP_looks]
  have I1 := I.setM1 s.top s.many (s.looks + 1) .non
  cases wrong with
  | false =>
    refine ⟨fun σ' H' => σ'[2]? = some (some (.bl false)) ∧ MI K G H' c fa fas { s with looks := s.looks + 1 } .non, ?_, fun σ' H' ⟨hσ, I2⟩ => a_ret (pv_var hσ) (k1 hl rfl H' I2)⟩
    exact a_if (pt_B (pv_var rfl)) (fun h => by cases h) fun _ => ⟨rfl, I1⟩
  | true =>
    refine ⟨fun σ' H' => σ'[2]? = some (some (.bl true)) ∧ ∃ G', Ex G G' ∧ Done K G' H' c ⟨s.told, .tuple [.str "fault", .str (whyOf r.act.kind), placeD r.lab], s.many, s.looks + 1⟩, ?_, fun σ' H' ⟨hσ, G', e', d⟩ => a_ret (pv_var hσ) (k2 hl rfl G' H' e' d)⟩
    refine a_if (pt_B (pv_var rfl)) (fun _ => ?_) fun h => by cases h
    obtain ⟨y, hy⟩ := hw hl
    have ew : whyOf r.act.kind = y := by unfold whyOf; rw [hy]; rfl
    rw [ew]
    refine t_tup (pa_cons pv_c (pa_cons (pv_ixd pv_c (R.at0 I1.ex (pv_var rfl)) (P.why _ _ hy)) (pa_cons (R.at1 I1.ex (pv_var rfl)) pa_nil))) (by show 3 ≤ 100000; decide) fun t ht => ?_
    have I2 := I1.tup (o := .tup [.str "fault", .str y, .ref pl]) ht
    have d := done3 I1 R y ht s.many (s.looks + 1)
    refine pv_var rfl _ ⟨c.m, _, c.dx, _, rfl, I2.hm, P.cM, P.mEnd, mF_len, ?_⟩
    exact ⟨rfl, upd G t (.tup [.str "fault", .str y, .ref pl]), Ex.new (fresh_back I1.ex ht), d⟩
/-- what a step is to reach -/
def Reach (K : PySem.W.Frag) (G : Hp) (c : MC) (fa : FA) (fas : List FA) (Q : VK) (o : Out) : Prop := match o with
  | .go s' => ∀ G' H' fa', fa'.a = fa.a → Ex G G' → MI K G' H' c fa' fas s' .non → Q .non H'
  | .fin f => ∀ G' H', Ex G G' → Done K G' H' c f → Q .non H'
theorem s_on_set (P : PF K w) (I : MI K G H c fa fas s .non) (R : RI K G row pl pa xs r) {x : Str} {n : Int} (ea : r.act = .set x n) (hl : s.cur.nums.length < 100)
    (k : Reach K G c fa fas Q (.go (s.setN x n))) : sp_on_set K w [.ref c.m, .ref fa.a, .ref row] H Q E := by
  refine ⟨rfl, ?_⟩
  unfold t_on_set
  have hx := R.hx
  rw [ea] at hx
  obtain ⟨v1, ys, e1, a1, hx⟩ := dpAll_cons hx
  obtain ⟨v2, ys, rfl, a2, hx⟩ := dpAll_cons hx
  rw [dpAll_nil hx, dp_str a1, dp_int a2] at e1
  have hp := R.hpa
  rw [e1] at hp
  refine a_asg (R.at3 I.ex (pv_var rfl)) (g_n2 (ex_t I.ex hp) ?_)
  refine a_put (pv_var rfl) (pv_fld (pv_var rfl) I.ha P.cF P.fNums fF_nums) (pv_var rfl) (DPut.k (k := Sum.inr x) I.hn (by rw [List.length_map]; exact sz_lt (by omega))) ?_
  exact k G _ fa rfl (Ex.refl G) (I.setN x n)
end
end B72


set_option Elab.async false
set_option linter.all false
set_option maxRecDepth 100000
set_option maxHeartbeats 4000000
/-! B3: what the machine's acts do. -/
namespace B72
open PySem L2 Evl R72
section
variable {K : PySem.W.Frag} {w : World} {σ : L2.St} {H : Hp} {D : Ends} {g : TG} {tb : TS} {tl : TE}
theorem f_L {a : Addr} {xs : List V} (h : Pv tl σ H (.ref a)) (hx : SqL K H a xs) (Pv : Nat → L2.St → Hp → Prop) (h0 : Pv 0 σ H) (hl : ∀ i σ H, i ≤ xs.length → Pv i σ H → SqL K H a xs)
    (hs : ∀ i x σ H, xs[i]? = some x → Pv i σ H → g x σ H fun σ2 H2 => tb { D with nx := Pv (i + 1), ct := Pv (i + 1), bk := D.nx } σ2 H2) (hd : ∀ σ H, Pv xs.length σ H → D.nx σ H) : tFor (iSeqX K tl) g tb D σ H :=
  h _ ⟨a, rfl, .inl ⟨xs, hx, for_list Pv h0 hl hs hd⟩⟩
theorem f_T {a : Addr} {xs : List V} (h : Pv tl σ H (.ref a)) (hx : SqT K H a xs) (Pv : Nat → L2.St → Hp → Prop) (h0 : Pv 0 σ H) (hl : ∀ i σ H, i ≤ xs.length → Pv i σ H → SqT K H a xs)
    (hs : ∀ i x σ H, xs[i]? = some x → Pv i σ H → g x σ H fun σ2 H2 => tb { D with nx := Pv (i + 1), ct := Pv (i + 1), bk := D.nx } σ2 H2) (hd : ∀ σ H, Pv xs.length σ H → D.nx σ H) : tFor (iSeqX K tl) g tb D σ H :=
  h _ ⟨a, rfl, .inr ⟨xs, hx, for_tup Pv h0 hl hs hd⟩⟩
/-- if t: x = e, and on -/
theorem c_asgif {i : Nat} {old v1 : V} {b : Bool} {t : TT} {te : TE} {u : TS} (ho : σ[i]? = some (some old)) (h : Pt t σ H b) (hv : b = true → Pv te σ H v1) (k : u D (σ.set i (some (if b = true then v1 else old))) H) :
    C8.tCut (tIfS t (tAsg te (gName i)) tNext) u D σ H := by
  refine ⟨fun σ' H' => H' = H ∧ σ' = σ.set i (some (if b = true then v1 else old)), a_if h (fun hb => ?_) fun hb => ?_, fun σ' H' e => by rw [e.1, e.2]; exact k⟩
  · refine a_asg (hv hb) ⟨rfl, ?_⟩
    rw [if_pos hb]
  · refine ⟨rfl, ?_⟩
    rw [hb, if_neg (by decide)]
    exact (set_same ho).symm
where
  set_same {α : Type} {xs : List α} {i : Nat} {x : α} (h : xs[i]? = some x) : xs.set i x = xs := by
    apply List.ext_getElem?
    intro j
    rw [List.getElem?_set]
    by_cases q : i = j
    · subst q
      rw [if_pos rfl]
      have hi := (List.getElem?_eq_some_iff.mp h).1
      rw [if_pos hi, h]
    · rw [if_neg q]
end
def Side.v : Side → V
  | .inl x => .str x
  | .inr i => .int i
theorem dp_side {K : PySem.W.Frag} {H : Hp} {v : V} {z : Side} (h : Dp K H v z.d) : v = z.v := by
  cases z with
  | inl x => exact dp_str h
  | inr i => exact dp_int h
section
variable {K : PySem.W.Frag} {w : World} {G G' H H' : Hp} {c : MC} {fa fa' : FA} {fas : List FA} {s s' : PM} {row pl pa : Addr} {xs : List V} {r : Row} {Q : VK} {E : XK} {σ : L2.St} {D : Ends}
/-! parts of a row -/
theorem RI.p1 (R : RI K G row pl pa xs r) {d1 : PyData} (e : r.act.parts = [d1]) : ∃ v1, SqT K G pa [v1] ∧ Dp K G v1 d1 := by
  have hx := R.hx
  rw [e] at hx
  obtain ⟨v1, ys, e1, a1, hx⟩ := dpAll_cons hx
  rw [dpAll_nil hx] at e1
  exact ⟨v1, e1 ▸ R.hpa, a1⟩
theorem RI.p2 (R : RI K G row pl pa xs r) {d1 d2 : PyData} (e : r.act.parts = [d1, d2]) : ∃ v1 v2, SqT K G pa [v1, v2] ∧ Dp K G v1 d1 ∧ Dp K G v2 d2 := by
  have hx := R.hx
  rw [e] at hx
  obtain ⟨v1, ys, e1, a1, hx⟩ := dpAll_cons hx
  obtain ⟨v2, ys, rfl, a2, hx⟩ := dpAll_cons hx
  rw [dpAll_nil hx] at e1
  exact ⟨v1, v2, e1 ▸ R.hpa, a1, a2⟩
theorem RI.p3 (R : RI K G row pl pa xs r) {d1 d2 d3 : PyData} (e : r.act.parts = [d1, d2, d3]) : ∃ v1 v2 v3, SqT K G pa [v1, v2, v3] ∧ Dp K G v1 d1 ∧ Dp K G v2 d2 ∧ Dp K G v3 d3 := by
  have hx := R.hx
  rw [e] at hx
  obtain ⟨v1, ys, e1, a1, hx⟩ := dpAll_cons hx
  obtain ⟨v2, ys, rfl, a2, hx⟩ := dpAll_cons hx
  obtain ⟨v3, ys, rfl, a3, hx⟩ := dpAll_cons hx
  rw [dpAll_nil hx] at e1
  exact ⟨v1, v2, v3, e1 ▸ R.hpa, a1, a2, a3⟩
theorem RI.p4 (R : RI K G row pl pa xs r) {d1 d2 d3 d4 : PyData} (e : r.act.parts = [d1, d2, d3, d4]) : ∃ v1 v2 v3 v4, SqT K G pa [v1, v2, v3, v4] ∧ Dp K G v1 d1 ∧ Dp K G v2 d2 ∧ Dp K G v3 d3 ∧ Dp K G v4 d4 := by
  have hx := R.hx
  rw [e] at hx
  obtain ⟨v1, ys, e1, a1, hx⟩ := dpAll_cons hx
  obtain ⟨v2, ys, rfl, a2, hx⟩ := dpAll_cons hx
  obtain ⟨v3, ys, rfl, a3, hx⟩ := dpAll_cons hx
  obtain ⟨v4, ys, rfl, a4, hx⟩ := dpAll_cons hx
  rw [dpAll_nil hx] at e1
  exact ⟨v1, v2, v3, v4, e1 ▸ R.hpa, a1, a2, a3, a4⟩
/-! numbers.x, lain.x, by slots -/
theorem pv_num (P : PF K w) (I : MI K G H c fa fas s .non) {i j : Nat} {x : Str} (hf : σ[i]? = some (some (.ref fa.a))) (hx : σ[j]? = some (some (.str x))) (h : x ∈ keysA s.cur.nums) : Pv (tDGet (tFld K (tVar i) "numbers") (tVar j)) σ H (.int (s.num x)) :=
  pv_get (pv_fld (pv_var hf) I.ha P.cF P.fNums fF_nums) (pv_var hx) (I.getN h)
def SideIn (s : PM) : Side → Prop
  | .inl x => x ∈ keysA s.cur.nums
  | .inr _ => True
theorem pv_side (P : PF K w) (I : MI K G H c fa fas s .non) {i j : Nat} {z : Side} (hf : σ[i]? = some (some (.ref fa.a))) (hx : σ[j]? = some (some z.v)) (h : SideIn s z) :
    Pv (tIf (tB (tCB (rIsiX K) (tCons (tVar j) (tCons (tC (.ty "str")) tNil)))) (tDGet (tFld K (tVar i) "numbers") (tVar j)) (tVar j)) σ H (.int (s.side z)) := by
  cases z with
  | inl x => exact pv_if (b := true) (pt_B (pv_isi_s (pv_var hx))) (fun _ => pv_num P I hf hx h) (fun h => by cases h)
  | inr n => exact pv_if (b := false) (pt_B (pv_isi_i (pv_var hx))) (fun h => by cases h) fun _ => pv_var hx
theorem s_side (P : PF K w) (I : MI K G H c fa fas s .non) {z : Side} (h : SideIn s z) (k : Q (.int (s.side z)) H) : sp_side_of K w [z.v, .ref fa.n] H Q E := by
  refine ⟨rfl, ?_⟩
  unfold t_side_of
  refine a_ret (v := .int (s.side z)) ?_ k
  cases z with
  | inl x => exact pv_if (b := true) (pt_B (pv_isi_s (pv_var rfl))) (fun _ => pv_get (pv_var rfl) (pv_var rfl) (I.getN h)) (fun h => by cases h)
  | inr n => exact pv_if (b := false) (pt_B (pv_isi_i (pv_var rfl))) (fun h => by cases h) fun _ => pv_var rfl
theorem s_is_so (P : PF K w) (I : MI K G H c fa fas s .non) {a b : Side} {g : Str} (ha : SideIn s a) (hb : SideIn s b) (k : Q (.bl (isSo (s.side a) g (s.side b))) H) : sp_is_so K w [a.v, .str g, b.v, .ref fa.n] H Q E := by
  refine ⟨rfl, ?_⟩
  unfold t_is_so
  refine t_call (pa_cons (pv_var rfl) (pa_cons (pv_var rfl) pa_nil)) (s_side P I ha ?_)
  refine t_call (pa_cons (pv_var rfl) (pa_cons (pv_var rfl) pa_nil)) (s_side P I hb ?_)
  refine ⟨_, _, rfl, ?_⟩
  dsimp only
  refine a_ret (v := .bl (isSo (s.side a) g (s.side b))) ?_ k
  refine pv_if (pt_test (pv_eqS (pv_var rfl) pv_c)) (fun h => ?_) fun h => ?_
  · have h : g = "<" := of_decide_eq_true h
    unfold isSo
    rw [if_pos h]
    exact pv_op (pv_var rfl) (pv_var rfl) pr_lt
  · have h : ¬ g = "<" := of_decide_eq_false h
    unfold isSo
    rw [if_neg h]
    exact pv_op (pv_var rfl) (pv_var rfl) pr_le
/-! looked at, then on -/
def OneOf (s s1 : PM) : Prop := s1 = s ∨ s1 = { s with looks := s.looks + 1 }
theorem OneOf.cur {s s1 : PM} (h : OneOf s s1) : s1.cur = s.cur ∧ s1.mem = s.mem ∧ s1.top = s.top ∧ s1.told = s.told ∧ s1.below = s.below ∧ s1.left = s.left ∧ s1.many = s.many := by
  rcases h with h | h <;> subst h <;> exact ⟨rfl, rfl, rfl, rfl, rfl, rfl, rfl⟩
theorem look_call (P : PF K w) (I : MI K G H c fa fas s .non) (R : RI K G row pl pa xs r) (hw : r.look = true → ∃ y, getA whys r.act.kind = some y) {wrong : Bool} {f : PM → Out} {Q' : VK}
    (k : Reach K G c fa fas Q (s.look r wrong f)) (hA : ∀ H1 s1, OneOf s s1 → MI K G H1 c fa fas s1 .non → Reach K G c fa fas Q (f s1) → Q' (.bl false) H1) (hB : ∀ H1, Q .non H1 → Q' (.bl true) H1) :
    sp_Machine_fails K w [.ref c.m, .ref row, .bl wrong] H Q' E := by
  refine s_fails P I R hw (fun h => ?_) (fun h h2 H' I' => ?_) fun h h2 G' H' e d => ?_
  · unfold PM.look at k
    rw [h, if_neg (by decide)] at k
    exact hA H s (.inl rfl) I k
  · unfold PM.look at k
    rw [if_pos h, h2, if_neg (by decide)] at k
    exact hA H' _ (.inr rfl) I' k
  · unfold PM.look at k
    rw [if_pos h, if_pos h2] at k
    exact hB H' (k G' H' e d)
/-- if not machine.fails(row, ..): A -/
theorem look_if (P : PF K w) (I : MI K G H c fa fas s .non) (R : RI K G row pl pa xs r) (hw : r.look = true → ∃ y, getA whys r.act.kind = some y) {wrong : Bool} {f : PM → Out} {te : TE} {A : TS}
    (h0 : σ[0]? = some (some (.ref c.m))) (h2 : σ[2]? = some (some (.ref row))) (hwr : Pv te σ H (.bl wrong))
    (k : Reach K G c fa fas Q (s.look r wrong f)) (hA : ∀ H1 s1, OneOf s s1 → MI K G H1 c fa fas s1 .non → Reach K G c fa fas Q (f s1) → A { nx := fun _ H' => Q .non H', rt := Q } σ H1) :
    tIfS (tNot (tB (tMeth (He.ga K "Machine") "fails" (sp_Machine_fails K w) [] C8.E0 (tVar 0) (tCons (tVar 2) (tCons te tNil))))) A tNext { nx := fun _ H' => Q .non H', rt := Q } σ H := by
  refine t_meth (pv_var h0) I.hm mF_m1 (pa_cons (pv_var h2) (pa_cons hwr pa_nil)) (look_call P I R hw k (fun H1 s1 o I1 k1 => ⟨false, rfl, ?_⟩) fun H1 q => ⟨true, rfl, ?_⟩)
  · exact hA H1 s1 o I1 k1
  · exact q
/-- if machine.fails(row, ..): return -/
theorem look_ret (P : PF K w) (I : MI K G H c fa fas s .non) (R : RI K G row pl pa xs r) (hw : r.look = true → ∃ y, getA whys r.act.kind = some y) {wrong : Bool} {f : PM → Out} {te : TE} {A : TS}
    (h0 : σ[0]? = some (some (.ref c.m))) (h2 : σ[2]? = some (some (.ref row))) (hwr : Pv te σ H (.bl wrong))
    (k : Reach K G c fa fas Q (s.look r wrong f)) (hA : ∀ H1 s1, OneOf s s1 → MI K G H1 c fa fas s1 .non → Reach K G c fa fas Q (f s1) → A { nx := fun _ H' => Q .non H', rt := Q } σ H1) :
    tSeq (tIfS (tB (tMeth (He.ga K "Machine") "fails" (sp_Machine_fails K w) [] C8.E0 (tVar 0) (tCons (tVar 2) (tCons te tNil)))) tRetN tNext) A { nx := fun _ H' => Q .non H', rt := Q } σ H := by
  refine t_meth (pv_var h0) I.hm mF_m1 (pa_cons (pv_var h2) (pa_cons hwr pa_nil)) (look_call P I R hw k (fun H1 s1 o I1 k1 => ⟨false, rfl, ?_⟩) fun H1 q => ⟨true, rfl, ?_⟩)
  · exact hA H1 s1 o I1 k1
  · exact q
theorem cmul_small {i j : Int} (hi : -1000 ≤ i ∧ i ≤ 1000) (hj : -1000 ≤ j ∧ j ≤ 1000) : CMulW i j := by
  unfold CMulW
  have a := Nat.log2_le_self i.natAbs
  have b := Nat.log2_le_self j.natAbs
  omega
theorem side_le {W : Int} (hn : ∀ e ∈ s.cur.nums, -W ≤ e.2 ∧ e.2 ≤ W) (hW : 0 ≤ W) (x : Str) : -W ≤ s.num x ∧ s.num x ≤ W := by
  unfold PM.num
  cases h : getA s.cur.nums x with
  | none => exact ⟨by show -W ≤ 0; omega, hW⟩
  | some v => exact hn _ (mem_get h)
theorem dput_n (I : MI K G H c fa fas s .non) (hl : s.cur.nums.length < 100) (x : Str) (v : V) : DPut H fa.n (.str x) v (upd H fa.n (.dK (putK (s.cur.nums.map kvN) (Sum.inr x) v))) := DPut.k (k := Sum.inr x) I.hn (by rw [List.length_map]; exact sz_lt (by omega))
theorem s_on_sum (P : PF K w) (I : MI K G H c fa fas s .non) (R : RI K G row pl pa xs r) {k x y : Str} {z : Side} (ea : r.act = .sum k x y z) (hl : s.cur.nums.length < 100) (hW : 1 ≤ c.wide ∧ c.wide ≤ 31)
    (hn : ∀ e ∈ s.cur.nums, -c.wide ≤ e.2 ∧ e.2 ≤ c.wide) (hy : y ∈ keysA s.cur.nums) (hz : SideIn s z) (hzv : -31 ≤ s.side z ∧ s.side z ≤ 31) (hw : r.look = true → ∃ y, getA whys r.act.kind = some y) {cs : List CR}
    (kk : Reach K G c fa fas Q (doAct cs c.wide s r)) : sp_on_sum K w [.ref c.m, .ref fa.a, .ref row] H Q E := by
  refine ⟨rfl, ?_⟩
  unfold t_on_sum
  obtain ⟨v1, v2, v3, hp, a1, a2, a3⟩ := R.p3 (by rw [ea]; rfl)
  cases dp_str a1
  cases dp_str a2
  cases dp_side a3
  refine a_asg (R.at3 I.ex (pv_var rfl)) (g_n3 (ex_t I.ex hp) ?_)
  refine a_asg (pv_num P I rfl rfl hy) ?_
  refine a_asg (pv_side P I rfl rfl hz) ?_
  refine a_asg (pv_op (pv_var rfl) (pv_var rfl) pr_add) ?_
  refine c_asgif rfl (pt_test (pv_eqS (R.at0 I.ex (pv_var rfl)) pv_c)) (fun _ => pv_op (pv_var rfl) (pv_var rfl) pr_sub) ?_
  have b1 := side_le (s := s) hn (by omega) y
  refine c_asgif rfl (pt_test (pv_eqS (R.at0 I.ex (pv_var rfl)) pv_c)) (fun _ => pv_op (pv_var rfl) (pv_var rfl) (pr_mul (cmul_small (by omega) (by omega)))) ?_
  refine a_asg (pv_fld (pv_var rfl) I.hm P.cM P.mWide mF_wide) ?_
  have ek : r.act.kind = k := by rw [ea]; rfl
  have ev : (if decide (r.act.kind = "times") = true then V.int (s.num y * s.side z) else if decide (r.act.kind = "minus") = true then V.int (s.num y - s.side z) else V.int (s.num y + s.side z)) = V.int (sumF k (s.num y) (s.side z)) := by
    rw [ek]
    unfold sumF
    by_cases h1 : k = "times"
    · rw [if_pos h1, if_pos (decide_eq_true h1)]
    · rw [if_neg h1, if_neg (by simpa using h1)]
      by_cases h2 : k = "minus"
      · rw [if_pos h2, if_pos (decide_eq_true h2)]
      · rw [if_neg h2, if_neg (by simpa using h2)]
  rw [ev]
  have kk2 : Reach K G c fa fas Q (s.look r (!(decide (-c.wide ≤ sumF k (s.num y) (s.side z)) && decide (sumF k (s.num y) (s.side z) ≤ c.wide))) fun s => .go (s.setN x ((sumF k (s.num y) (s.side z) + c.wide).fmod (2 * c.wide + 1) - c.wide))) := by
    unfold doAct at kk
    rw [ea] at kk
    exact kk
  refine look_if P I R hw rfl rfl (pv_notV (pv_chain (pv_neg (pv_var rfl)) (pv_var rfl) pr_le (pv_var rfl) pr_le)) kk2 fun H1 s1 o I1 k1 => ?_
  refine a_put (pv_op (pv_op (pv_op (pv_var rfl) (pv_var rfl) pr_add) (pv_op (pv_op pv_c (pv_var rfl) (pr_mul (cmul_small (by omega) (by omega)))) pv_c pr_add) (pr_mod (by omega))) (pv_var rfl) pr_sub)
    (pv_fld (pv_var rfl) I1.ha P.cF P.fNums fF_nums) (pv_var rfl) (dput_n I1 (by rw [o.cur.1]; exact hl) x _) ?_
  have e : (s1.setN x ((sumF k (s1.num y) (s1.side z) + c.wide).fmod (2 * c.wide + 1) - c.wide)) = s1.setN x ((sumF k (s.num y) (s.side z) + c.wide).fmod (2 * c.wide + 1) - c.wide) := by
    rcases o with o | o <;> subst o <;> (cases z <;> rfl)
  rw [e] at k1
  exact k1 G _ fa rfl (Ex.refl G) (I1.setN x _)
theorem s_on_over (P : PF K w) (I : MI K G H c fa fas s .non) (R : RI K G row pl pa xs r) {k x y z : Str} (ea : r.act = .over k x y z) (hl : s.cur.nums.length < 100) (hW : 1 ≤ c.wide ∧ c.wide ≤ 31)
    (hn : ∀ e ∈ s.cur.nums, -c.wide ≤ e.2 ∧ e.2 ≤ c.wide) (hy : y ∈ keysA s.cur.nums) (hz : z ∈ keysA s.cur.nums) (hw : r.look = true → ∃ y, getA whys r.act.kind = some y) {cs : List CR}
    (kk : Reach K G c fa fas Q (doAct cs c.wide s r)) : sp_on_over K w [.ref c.m, .ref fa.a, .ref row] H Q E := by
  refine ⟨rfl, ?_⟩
  unfold t_on_over
  obtain ⟨v1, v2, v3, hp, a1, a2, a3⟩ := R.p3 (by rw [ea]; rfl)
  cases dp_str a1
  cases dp_str a2
  cases dp_str a3
  refine a_asg (R.at3 I.ex (pv_var rfl)) (g_n3 (ex_t I.ex hp) ?_)
  refine pv_num P I rfl rfl hy _ (pv_num P I rfl rfl hz _ ⟨_, _, rfl, ?_⟩)
  have b1 := side_le (s := s) hn (by omega) y
  have b2 := side_le (s := s) hn (by omega) z
  have kk2 : Reach K G c fa fas Q (s.look r (decide (s.num z = 0)) fun s => .go (s.setN x (if s.num z = 0 then 0 else if k = "over" then (s.num y).fdiv (s.num z) else (s.num y).fmod (s.num z)))) := by
    unfold doAct at kk
    rw [ea] at kk
    exact kk
  refine look_ret P I R hw rfl rfl (pv_eqI (pv_var rfl) pv_c) kk2 fun H1 s1 o I1 k1 => ?_
  refine a_asg pv_c ?_
  have ek : r.act.kind = k := by rw [ea]; rfl
  refine c_asgif (v1 := .int (if k = "over" then (s.num y).fdiv (s.num z) else (s.num y).fmod (s.num z))) rfl (pt_test (pv_neI (pv_var rfl) pv_c)) (fun h => ?_) ?_
  · have h : ¬ s.num z = 0 := by simpa using h
    refine pv_if (pt_test (pv_eqS (R.at0 I1.ex (pv_var rfl)) pv_c)) (fun h => ?_) fun h => ?_
    · rw [ek] at h
      rw [if_pos (of_decide_eq_true h)]
      exact pv_op (pv_var rfl) (pv_var rfl) (pr_fdv ⟨by assumption, by omega⟩)
    · rw [ek] at h
      rw [if_neg (of_decide_eq_false h)]
      exact pv_op (pv_var rfl) (pv_var rfl) (pr_mod (by assumption))
  · refine a_put (pv_var rfl) (pv_fld (pv_var rfl) I1.ha P.cF P.fNums fF_nums) (pv_var rfl) (dput_n I1 (by rw [o.cur.1]; exact hl) x _) ?_
    have e : (if (!decide (s.num z = 0)) = true then V.int (if k = "over" then (s.num y).fdiv (s.num z) else (s.num y).fmod (s.num z)) else V.int 0) = V.int (if s1.num z = 0 then 0 else if k = "over" then (s1.num y).fdiv (s1.num z) else (s1.num y).fmod (s1.num z)) := by
      have en : ∀ x, s1.num x = s.num x := fun x => by rcases o with o | o <;> subst o <;> rfl
      rw [en, en]
      by_cases h : s.num z = 0
      · rw [if_pos h, if_neg (by simpa using h)]
      · rw [if_neg h, if_pos (by simpa using h)]
    rw [e]
    exact k1 G _ fa rfl (Ex.refl G) (I1.setN x _)
theorem s_on_mid (P : PF K w) (I : MI K G H c fa fas s .non) (R : RI K G row pl pa xs r) {x y z : Str} (ea : r.act = .mid x y z) (hl : s.cur.nums.length < 100)
    (hy : y ∈ keysA s.cur.nums) (hz : z ∈ keysA s.cur.nums) {cs : List CR} (kk : Reach K G c fa fas Q (doAct cs c.wide s r)) : sp_on_mid K w [.ref c.m, .ref fa.a, .ref row] H Q E := by
  refine ⟨rfl, ?_⟩
  unfold t_on_mid
  obtain ⟨v1, v2, v3, hp, a1, a2, a3⟩ := R.p3 (by rw [ea]; rfl)
  cases dp_str a1
  cases dp_str a2
  cases dp_str a3
  refine a_asg (R.at3 I.ex (pv_var rfl)) (g_n3 (ex_t I.ex hp) ?_)
  refine a_put (pv_op (pv_op (pv_num P I rfl rfl hy) (pv_num P I rfl rfl hz) pr_add) pv_c (pr_fdv ⟨by decide, by decide⟩)) (pv_fld (pv_var rfl) I.ha P.cF P.fNums fF_nums) (pv_var rfl) (dput_n I hl x _) ?_
  unfold doAct at kk
  rw [ea] at kk
  exact kk G _ fa rfl (Ex.refl G) (I.setN x _)
theorem s_on_length (P : PF K w) (I : MI K G H c fa fas s .non) (R : RI K G row pl pa xs r) {x a : Str} (ea : r.act = .len x a) (hl : s.cur.nums.length < 100)
    (hy : a ∈ keysA s.cur.lain) {cs : List CR} (kk : Reach K G c fa fas Q (doAct cs c.wide s r)) : sp_on_length K w [.ref c.m, .ref fa.a, .ref row] H Q E := by
  refine ⟨rfl, ?_⟩
  unfold t_on_length
  obtain ⟨v1, v2, hp, a1, a2⟩ := R.p2 (by rw [ea]; rfl)
  cases dp_str a1
  cases dp_str a2
  refine a_asg (R.at3 I.ex (pv_var rfl)) (g_n2 (ex_t I.ex hp) ?_)
  obtain ⟨t, g1, g2⟩ := I.getL hy
  refine a_put (pv_op (pv_get (pv_fld (pv_var rfl) I.ha P.cF P.fLain fF_lain) (pv_var rfl) g1) pv_c (pr_ixt g2 rfl)) (pv_fld (pv_var rfl) I.ha P.cF P.fNums fF_nums) (pv_var rfl) (dput_n I hl x _) ?_
  unfold doAct at kk
  rw [ea] at kk
  exact kk G _ fa rfl (Ex.refl G) (I.setN x _)
theorem s_on_tell (P : PF K w) (I : MI K G H c fa fas s .non) (R : RI K G row pl pa xs r) {x : Str} (ea : r.act = .tell x) (hl : s.told.length < 10000)
    (hy : x ∈ keysA s.cur.nums) {cs : List CR} (kk : Reach K G c fa fas Q (doAct cs c.wide s r)) : sp_on_tell K w [.ref c.m, .ref fa.a, .ref row] H Q E := by
  refine ⟨rfl, ?_⟩
  unfold t_on_tell
  obtain ⟨v1, hp, a1⟩ := R.p1 (by rw [ea]; rfl)
  cases dp_str a1
  refine a_app (pv_fld (pv_var rfl) I.hm P.cM P.mTold mF_told) (pv_get (pv_fld (pv_var rfl) I.ha P.cF P.fNums fF_nums) (pv_op (R.at3 I.ex (pv_var rfl)) pv_c (pr_ixt (ex_t I.ex hp) rfl)) (I.getN hy)) I.htold (by rw [List.length_map]; exact sz_lt (by omega)) ?_
  unfold doAct at kk
  rw [ea] at kk
  exact kk G _ fa rfl (Ex.refl G) (I.setTold _)
theorem s_on_check (P : PF K w) (I : MI K G H c fa fas s .non) (R : RI K G row pl pa xs r) {a b : Side} {g : Str} (ea : r.act = .chk a g b) (ha : SideIn s a) (hb : SideIn s b) (hw : r.look = true → ∃ y, getA whys r.act.kind = some y)
    {cs : List CR} (kk : Reach K G c fa fas Q (doAct cs c.wide s r)) : sp_on_check K w [.ref c.m, .ref fa.a, .ref row] H Q E := by
  refine ⟨rfl, ?_⟩
  unfold t_on_check
  obtain ⟨v1, v2, v3, hp, a1, a2, a3⟩ := R.p3 (by rw [ea]; rfl)
  cases dp_side a1
  cases dp_str a2
  cases dp_side a3
  refine a_asg (R.at3 I.ex (pv_var rfl)) (g_n3 (ex_t I.ex hp) ?_)
  have kk2 : Reach K G c fa fas Q (s.look r (!isSo (s.side a) g (s.side b)) fun s => .go s) := by
    unfold doAct at kk
    rw [ea] at kk
    exact kk
  refine t_methK (pv_var rfl) I.hm mF_m1 ?_
  refine pv_var rfl _ ?_
  refine t_call (pa_cons (pv_var rfl) (pa_cons (pv_var rfl) (pa_cons (pv_var rfl) (pa_cons (pv_fld (pv_var rfl) I.ha P.cF P.fNums fF_nums) pa_nil)))) (s_is_so P I ha hb ⟨_, rfl, ?_⟩)
  exact look_call (E := C8.E0) P I R hw kk2 (fun H1 s1 o I1 k1 => k1 G _ fa rfl (Ex.refl G) I1) fun H1 q => q
theorem s_on_if (P : PF K w) (I : MI K G H c fa fas s .non) (R : RI K G row pl pa xs r) {a b : Side} {g : Str} {j : Int} (ea : r.act = .iff a g b j) (ha : SideIn s a) (hb : SideIn s b)
    {cs : List CR} (kk : Reach K G c fa fas Q (doAct cs c.wide s r)) : sp_on_if K w [.ref c.m, .ref fa.a, .ref row] H Q E := by
  refine ⟨rfl, ?_⟩
  unfold t_on_if
  obtain ⟨v1, v2, v3, v4, hp, a1, a2, a3, a4⟩ := R.p4 (by rw [ea]; rfl)
  cases dp_side a1
  cases dp_str a2
  cases dp_side a3
  cases dp_int a4
  refine a_asg (R.at3 I.ex (pv_var rfl)) (g_n4 (ex_t I.ex hp) ?_)
  unfold doAct at kk
  rw [ea] at kk
  refine t_call (pa_cons (pv_var rfl) (pa_cons (pv_var rfl) (pa_cons (pv_var rfl) (pa_cons (pv_fld (pv_var rfl) I.ha P.cF P.fNums fF_nums) pa_nil)))) (s_is_so P I ha hb ⟨_, rfl, ?_⟩)
  have kk : Reach K G c fa fas Q (.go (if isSo (s.side a) g (s.side b) = true then { s with cur := { s.cur with at_ := j } } else s)) := kk
  cases h : isSo (s.side a) g (s.side b) with
  | true =>
    rw [h, if_pos rfl] at kk
    refine a_fld (pv_var rfl) (pv_var rfl) I.ha P.cF P.fAt fF_len ?_
    exact kk G _ fa rfl (Ex.refl G) (I.setAt j)
  | false =>
    rw [h, if_neg (by decide)] at kk
    exact kk G _ fa rfl (Ex.refl G) I
theorem s_on_go (P : PF K w) (I : MI K G H c fa fas s .non) (R : RI K G row pl pa xs r) {j : Int} (ea : r.act = .go j) {cs : List CR} (kk : Reach K G c fa fas Q (doAct cs c.wide s r)) : sp_on_go K w [.ref c.m, .ref fa.a, .ref row] H Q E := by
  refine ⟨rfl, ?_⟩
  unfold t_on_go
  obtain ⟨v1, hp, a1⟩ := R.p1 (by rw [ea]; rfl)
  cases dp_int a1
  unfold doAct at kk
  rw [ea] at kk
  refine a_fld (pv_op (R.at3 I.ex (pv_var rfl)) pv_c (pr_ixt (ex_t I.ex hp) rfl)) (pv_var rfl) I.ha P.cF P.fAt fF_len ?_
  exact kk G _ fa rfl (Ex.refl G) (I.setAt j)
/-! cells by their places -/
theorem s_cell_of (P : PF K w) (I : MI K G H c fa fas s .non) (R : RI K G row pl pa xs r) (hw : r.look = true → ∃ y, getA whys r.act.kind = some y) {a p : Str} (ha : a ∈ keysA s.cur.lain) (hp : p ∈ keysA s.cur.nums) {f : PM → Out} {Q' : VK}
    (k : Reach K G c fa fas Q (s.look r (!(decide (0 ≤ s.num p) && decide (s.num p < (s.row a).2))) f)) (hA : ∀ H1 s1, OneOf s s1 → MI K G H1 c fa fas s1 .non → Reach K G c fa fas Q (f s1) → Q' (.int ((s.row a).1 + s.num p)) H1) (hB : ∀ H1, Q .non H1 → Q' .non H1) :
    sp_cell_of K w [.ref c.m, .ref fa.a, .ref row, .str a, .str p] H Q' E := by
  refine ⟨rfl, ?_⟩
  unfold t_cell_of
  obtain ⟨t, g1, g2⟩ := I.getL ha
  refine a_asg (pv_get (pv_fld (pv_var rfl) I.ha P.cF P.fLain fF_lain) (pv_var rfl) g1) (g_n2 g2 ?_)
  refine a_asg (pv_num P I rfl rfl hp) ?_
  refine t_meth (pv_var rfl) I.hm mF_m1 (pa_cons (pv_var rfl) (pa_cons (pv_notV (pv_chain pv_c (pv_var rfl) pr_le (pv_var rfl) pr_lt)) pa_nil)) ?_
  refine look_call P I R hw k (fun H1 s1 o I1 k1 => ⟨false, rfl, ?_⟩) fun H1 q => ⟨true, rfl, ?_⟩
  · exact pv_op (pv_var rfl) (pv_var rfl) pr_add _ (hA H1 s1 o I1 k1)
  · exact hB H1 q
theorem s_on_get (P : PF K w) (I : MI K G H c fa fas s .non) (R : RI K G row pl pa xs r) (hw : r.look = true → ∃ y, getA whys r.act.kind = some y) {x a p : Str} (ea : r.act = .get x a p) (hl : s.cur.nums.length < 100) (ha : a ∈ keysA s.cur.lain) (hp : p ∈ keysA s.cur.nums)
    {cs : List CR} (kk : Reach K G c fa fas Q (doAct cs c.wide s r)) : sp_on_get K w [.ref c.m, .ref fa.a, .ref row] H Q E := by
  refine ⟨rfl, ?_⟩
  unfold t_on_get
  obtain ⟨v1, v2, v3, hpa, a1, a2, a3⟩ := R.p3 (by rw [ea]; rfl)
  cases dp_str a1
  cases dp_str a2
  cases dp_str a3
  refine a_asg (R.at3 I.ex (pv_var rfl)) (g_n3 (ex_t I.ex hpa) ?_)
  have kk2 : Reach K G c fa fas Q (s.look r (!(decide (0 ≤ s.num p) && decide (s.num p < (s.row a).2))) fun s1 => .go (s1.setN x ((getA s1.mem ((s.row a).1 + s.num p)).getD 0))) := by
    unfold doAct at kk
    rw [ea] at kk
    exact kk
  refine t_call (pa_cons (pv_var rfl) (pa_cons (pv_var rfl) (pa_cons (pv_var rfl) (pa_cons (pv_var rfl) (pa_cons (pv_var rfl) pa_nil))))) ?_
  refine s_cell_of P I R hw ha hp kk2 (fun H1 s1 o I1 k1 => ?_) fun H1 q => ?_
  · refine a_if (pt_test (pv_op (pv_var rfl) pv_c pr_notN)) (fun _ => ?_) fun h => by simp at h
    refine a_put (pv_get2 (pv_fld (pv_var rfl) I1.hm P.cM P.mMem mF_mem) (.inl ⟨_, .inl I1.hmem⟩) (pv_var rfl) pv_c (I1.getM _)) (pv_fld (pv_var rfl) I1.ha P.cF P.fNums fF_nums) (pv_var rfl) (dput_n I1 (by rw [o.cur.1]; exact hl) x _) ?_
    have e : ((getA s1.mem ((s.row a).1 + s.num p)).map V.int).getD (.int 0) = V.int ((getA s1.mem ((s.row a).1 + s.num p)).getD 0) := by
      cases getA s1.mem ((s.row a).1 + s.num p) <;> rfl
    rw [e]
    exact k1 G _ fa rfl (Ex.refl G) (I1.setN x _)
  · exact a_if (pt_test (pv_op (pv_var rfl) pv_c pr_notN)) (fun h => by simp at h) fun _ => q
theorem s_on_put (P : PF K w) (I : MI K G H c fa fas s .non) (R : RI K G row pl pa xs r) (hw : r.look = true → ∃ y, getA whys r.act.kind = some y) {x a p : Str} (ea : r.act = .put a p x) (hl : s.mem.length < 10000000) (ha : a ∈ keysA s.cur.lain) (hp : p ∈ keysA s.cur.nums) (hx : x ∈ keysA s.cur.nums)
    {cs : List CR} (kk : Reach K G c fa fas Q (doAct cs c.wide s r)) : sp_on_put K w [.ref c.m, .ref fa.a, .ref row] H Q E := by
  refine ⟨rfl, ?_⟩
  unfold t_on_put
  obtain ⟨v1, v2, v3, hpa, a1, a2, a3⟩ := R.p3 (by rw [ea]; rfl)
  cases dp_str a1
  cases dp_str a2
  cases dp_str a3
  refine a_asg (R.at3 I.ex (pv_var rfl)) (g_n3 (ex_t I.ex hpa) ?_)
  have kk2 : Reach K G c fa fas Q (s.look r (!(decide (0 ≤ s.num p) && decide (s.num p < (s.row a).2))) fun s1 => .go { s1 with mem := putA s1.mem ((s.row a).1 + s.num p) (s1.num x) }) := by
    unfold doAct at kk
    rw [ea] at kk
    exact kk
  refine t_call (pa_cons (pv_var rfl) (pa_cons (pv_var rfl) (pa_cons (pv_var rfl) (pa_cons (pv_var rfl) (pa_cons (pv_var rfl) pa_nil))))) ?_
  refine s_cell_of P I R hw ha hp kk2 (fun H1 s1 o I1 k1 => ?_) fun H1 q => ?_
  · refine a_if (pt_test (pv_op (pv_var rfl) pv_c pr_notN)) (fun _ => ?_) fun h => by simp at h
    refine a_put (pv_num P I1 rfl rfl (by rw [o.cur.1]; exact hx)) (pv_fld (pv_var rfl) I1.hm P.cM P.mMem mF_mem) (pv_var rfl) (DPut.k (k := Sum.inl ((s.row a).1 + s.num p)) I1.hmem (by rw [List.length_map, o.cur.2.1]; exact Nat.lt_of_lt_of_le hl (by decide))) ?_
    exact k1 G _ fa rfl (Ex.refl G) (I1.setM _ _)
  · exact a_if (pt_test (pv_op (pv_var rfl) pv_c pr_notN)) (fun h => by simp at h) fun _ => q
end
end B72


set_option Elab.async false
set_option linter.all false
set_option maxRecDepth 100000
set_option maxHeartbeats 4000000
/-! B4: cells laid, calls, backs. -/
namespace B72
open PySem L2 Evl R72
section
variable {K : PySem.W.Frag} {w : World} {σ : L2.St} {H : Hp} {D : Ends} {g : TG} {tb : TS} {tl te tn : TE} {Q : VK}
theorem eqv_nil (ds : List PyData) : PyData.eqv (.list ds) (.list []) = ds.isEmpty := by
  cases ds <;> simp [PyData.eqv, PyData.eqvAll]
theorem t_neNil {a : Addr} {ds : List PyData} (b : Bool) (eb : (!ds.isEmpty) = b) (h : Pv tl σ H (.ref a)) (hd : Dp K H (.ref a) (.list ds)) (sh : SeqAt.shaped (.list ds) = true) (k : ∀ H1, Ex H H1 → Q (.bl b) H1) : tOp (rNeX K) tl (tLst tNil) σ H Q :=
  h _ (t_lst pa_nil (by decide) fun p hp => .inr (.inl ⟨.list ds, .list [], dp_ex (Ex.new hp) _ hd, .lst (sq_of upd_same) .nil, sh, by decide, by rw [eqv_nil, eb]; exact k _ (Ex.new hp)⟩))
theorem t_eqNil {a : Addr} {ds : List PyData} (b : Bool) (eb : ds.isEmpty = b) (h : Pv tl σ H (.ref a)) (hd : Dp K H (.ref a) (.list ds)) (sh : SeqAt.shaped (.list ds) = true) (k : ∀ H1, Ex H H1 → Q (.bl b) H1) : tOp (rEqX K) tl (tLst tNil) σ H Q :=
  h _ (t_lst pa_nil (by decide) fun p hp => .inr (.inl ⟨.list ds, .list [], dp_ex (Ex.new hp) _ hd, .lst (sq_of upd_same) .nil, sh, by decide, by rw [eqv_nil, eb]; exact k _ (Ex.new hp)⟩))
/-- a comprehension over a range whose items make nothing -/
theorem l_rng {n : Int} {j : Nat} {vs : List Nat} {f : Nat → V} (h : Pv tn σ H (.int n)) (hn : -100000 ≤ n ∧ n ≤ 100000) (hw : ∀ x, wipe ((wipe σ vs).set j (some x)) vs = wipe σ vs)
    (hb : ∀ (i : Nat) H', Ex H H' → i < n.toNat → Pv te ((wipe σ vs).set j (some (.int (i : Int)))) H' (f i)) (k : ∀ p, H p = none → Q (.ref p) (upd H p (.lst ((List.range n.toNat).map f)))) :
    tLc (iRng1 (tCons tn tNil)) (gName j) tYes te vs σ H Q := by
  refine h _ ⟨n, rfl, by omega, by omega, fun Dl hD => ?_⟩
  refine lc_range (lo := 0) (n := n.toNat) (fun i H' => H' = upd H Dl (.lst ((List.range i).map f))) rfl (fun i H' hi e => ?_) fun H' e => by rw [e]; exact k Dl hD
  subst e
  have e0 : (0 : Int) + (i : Int) = (i : Int) := Int.zero_add _
  show wipe ((wipe σ vs).set j (some (.int ((0 : Int) + (i : Int))))) vs = wipe σ vs ∧ _
  rw [e0]
  refine ⟨hw _, ?_⟩
  refine hb i _ (Ex.new hD) hi _ ⟨_, upd_same, ?_, ?_⟩
  · rw [List.length_map, List.length_range]; exact sz_lt (by omega)
  · rw [upd_upd, List.range_succ, List.map_append]; rfl
end
section
variable {K : PySem.W.Frag} {w : World} {G G' H H' : Hp} {c : MC} {fa fa' : FA} {fas : List FA} {s s' : PM} {row pl pa : Addr} {xs : List V} {r : Row} {Q : VK} {E : XK} {σ : L2.St} {D : Ends}
theorem s_cells (P : PF K w) (I : MI K G H c fa fas s .non) {t : Addr} {l : Int × Int} (ht : SqT K H t [.int l.1, .int l.2]) (hl : 0 ≤ l.2 ∧ l.2 ≤ 1000) (k : ∀ p, H p = none → Q (.ref p) (upd H p (.lst ((s.cells l).map V.int)))) :
    sp_Machine_cells K w [.ref c.m, .ref t] H Q E := by
  refine ⟨rfl, ?_⟩
  unfold t_Machine_cells
  refine a_asg (pv_var rfl) (g_n2 ht ?_)
  refine l_rng (f := fun i => .int ((getA s.mem (l.1 + (i : Int))).getD 0)) (pv_var rfl) (by omega) (fun _ => rfl) (fun i H' e hi => ?_) fun p hp => ?_
  · have I1 := I.grow e
    have e1 : ((getA s.mem (l.1 + (i : Int))).map V.int).getD (.int 0) = V.int ((getA s.mem (l.1 + (i : Int))).getD 0) := by
      cases getA s.mem (l.1 + (i : Int)) <;> rfl
    rw [← e1]
    exact pv_get2 (pv_fld (pv_var rfl) I1.hm P.cM P.mMem mF_mem) (.inl ⟨_, .inl I1.hmem⟩) (pv_op (pv_var rfl) (pv_var rfl) pr_add) pv_c (I1.getM _)
  · have := k p hp
    have e : (s.cells l).map V.int = (List.range l.2.toNat).map fun (i : Nat) => V.int ((getA s.mem (l.1 + (i : Int))).getD 0) := by
      unfold PM.cells
      rw [List.map_map]; rfl
    rw [e] at this
    exact this
theorem laidM_snoc (m : List (Int × Int)) (t : Int) (xs : List Int) (v : Int) : laidM m t (xs ++ [v]) = putA (laidM m t xs) (t + xs.length) v := by
  induction xs generalizing m t with
  | nil => show putA m t v = putA m (t + 0) v; rw [Int.add_zero]
  | cons x xs ih =>
    show laidM (putA m t x) (t + 1) (xs ++ [v]) = putA (laidM (putA m t x) (t + 1) xs) (t + ((xs.length + 1 : Nat) : Int)) v
    rw [ih]
    congr 1
    omega
theorem laidM_len (m : List (Int × Int)) (t : Int) (xs : List Int) : (laidM m t xs).length ≤ m.length + xs.length := by
  induction xs generalizing m t with
  | nil => exact Nat.le_refl _
  | cons x xs ih =>
    have a := ih (putA m t x) (t + 1)
    have b := len_put_le m t x
    show (laidM (putA m t x) (t + 1) xs).length ≤ m.length + (xs.length + 1)
    omega
theorem lay_snoc (s : PM) (xs : List Int) (v : Int) : s.lay (xs ++ [v]) = { s.lay xs with mem := putA (s.lay xs).mem (s.lay xs).top v, top := (s.lay xs).top + 1 } := by
  unfold PM.lay
  rw [laidM_snoc, List.length_append]
  show PM.mk s.left _ (s.top + ((xs.length + 1 : Nat) : Int)) s.below s.cur s.told s.many s.looks = PM.mk s.left _ (s.top + (xs.length : Int) + 1) s.below s.cur s.told s.many s.looks
  congr 1
  omega
theorem s_laid (P : PF K w) (I : MI K G H c fa fas s .non) {wl : Addr} {ws : List Int} (hw : G wl = some (.lst (ws.map V.int))) (hl : s.mem.length + ws.length < 10000000) (hl2 : ws.length < 100000)
    (k : ∀ G' H' t, Ex G G' → MI K G' H' c fa fas (s.lay ws) .non → G' t = some (.tup [.int s.top, .int ws.length]) → Q (.ref t) H') : sp_Machine_laid K w [.ref c.m, .ref wl] H Q E := by
  refine ⟨rfl, ?_⟩
  unfold t_Machine_laid
  have hw1 := sq_of (K := K) (I.ex _ _ hw)
  refine a_asgT (pa_cons (pv_fld (pv_var rfl) I.hm P.cM P.mTop mF_top) (pa_cons (pv_lenl (pv_var rfl) hw1) pa_nil)) (by show 2 ≤ 100000; decide) fun t ht => ?_
  have el : (((ws.map V.int).length : Nat) : Int) = (ws.length : Int) := by rw [List.length_map]
  rw [el]
  have I1 := I.tup (o := .tup [.int s.top, .int (ws.length : Int)]) ht
  have hG : Ex G (upd G t (.tup [.int s.top, .int (ws.length : Int)])) := Ex.new (fresh_back I.ex ht)
  have hw2 := hG _ _ hw
  refine f_L (xs := ws.map V.int) (pv_var rfl) (sq_of (I1.ex _ _ hw2)) (fun i σ' H' => (∃ o, σ' = [some (.ref c.m), some (.ref wl), some (.ref t), o]) ∧ MI K (upd G t (.tup [.int s.top, .int (ws.length : Int)])) H' c fa fas (s.lay (ws.take i)) .non)
    ⟨⟨_, rfl⟩, by
      have e : s.lay (ws.take 0) = s := by unfold PM.lay; show PM.mk _ _ (s.top + 0) _ _ _ _ _ = s; rw [Int.add_zero]; rfl
      rw [e]; exact I1⟩ (fun i σ' H' _ p => sq_of (p.2.ex _ _ hw2)) (fun i x σ' H' hx p => ?_) fun σ' H' p => ?_
  · obtain ⟨⟨o, rfl⟩, I2⟩ := p
    rw [List.getElem?_map] at hx
    obtain ⟨v, hv, rfl⟩ := Option.map_eq_some_iff.mp hx
    have hi := (List.getElem?_eq_some_iff.mp hv).1
    have hlen : (s.lay (ws.take i)).mem.length < sizeLine := by
      have a := laidM_len s.mem s.top (ws.take i)
      have b := List.length_take_le i ws
      have b2 : (ws.take i).length ≤ ws.length := by rw [List.length_take]; omega
      exact Nat.lt_of_lt_of_le (show (laidM s.mem s.top (ws.take i)).length < 10000000 by omega) (by decide)
    refine a_put (pv_var rfl) (pv_fld (pv_var rfl) I2.hm P.cM P.mMem mF_mem) (pv_fld (pv_var rfl) I2.hm P.cM P.mTop mF_top) (DPut.k (k := Sum.inl (s.lay (ws.take i)).top) I2.hmem (by rw [List.length_map]; exact hlen)) ?_
    have I3 := I2.setM (s.lay (ws.take i)).top v
    refine a_aug1 (pv_var rfl) I3.hm P.cM P.mTop mF_top mF_len ?_
    refine ⟨⟨_, rfl⟩, ?_⟩
    have et : ws.take (i + 1) = ws.take i ++ [v] := by rw [List.take_succ, hv]; rfl
    rw [et, lay_snoc]
    exact I3.setM1 _ _ _ _
  · obtain ⟨⟨o, rfl⟩, I2⟩ := p
    have et : ws.take (ws.map V.int).length = ws := by rw [List.length_map, List.take_length]
    rw [et] at I2
    exact pv_var rfl _ (k _ _ t hG I2 upd_same)
theorem s_on_row (P : PF K w) (I : MI K G H c fa fas s .non) (R : RI K G row pl pa xs r) (hw : r.look = true → ∃ y, getA whys r.act.kind = some y) {a x : Str} (ea : r.act = .row a x) (hl : s.cur.lain.length < 100) (hm : s.mem.length < 1000000) (hx : x ∈ keysA s.cur.nums)
    (hv : s.num x ≤ 31) {cs : List CR} (kk : Reach K G c fa fas Q (doAct cs c.wide s r)) (hk : fa.kv.length = s.cur.lain.length) : sp_on_row K w [.ref c.m, .ref fa.a, .ref row] H Q E := by
  refine ⟨rfl, ?_⟩
  unfold t_on_row
  obtain ⟨v1, v2, hpa, a1, a2⟩ := R.p2 (by rw [ea]; rfl)
  cases dp_str a1
  cases dp_str a2
  refine a_asg (R.at3 I.ex (pv_var rfl)) (g_n2 (ex_t I.ex hpa) ?_)
  refine a_asg (pv_num P I rfl rfl hx) ?_
  have kk2 : Reach K G c fa fas Q (s.look r (decide (s.num x < 0)) fun s1 => .go ((s1.lay (List.replicate (s.num x).toNat 0)).setL a (s1.top, ((s.num x).toNat : Int)))) := by
    unfold doAct at kk
    rw [ea] at kk
    have e : (s.look r (decide (s.num x < 0)) fun s1 => Out.go ((s1.lay (List.replicate (s1.num x).toNat 0)).setL a (s1.top, ((s1.num x).toNat : Int)))) = (s.look r (decide (s.num x < 0)) fun s1 => .go ((s1.lay (List.replicate (s.num x).toNat 0)).setL a (s1.top, ((s.num x).toNat : Int)))) := by
      unfold PM.look
      rfl
    have kk : Reach K G c fa fas Q (s.look r (decide (s.num x < 0)) fun s1 => Out.go ((s1.lay (List.replicate (s1.num x).toNat 0)).setL a (s1.top, ((s1.num x).toNat : Int)))) := kk
    rw [e] at kk
    exact kk
  refine look_if P I R hw rfl rfl (pv_op (pv_var rfl) pv_c pr_lt) kk2 fun H1 s1 o I1 k1 => ?_
  refine t_methK (pv_var rfl) I1.hm mF_m2 ?_
  refine u_cons (u_op (t_lst (pa_cons pv_c pa_nil) (by show 1 ≤ 100000; decide) fun p hp => ?_))
  refine pv_max2 pv_c (pv_var rfl) _ ?_
  have em : (if s.num x > 0 then s.num x else 0) = ((s.num x).toNat : Int) := by split <;> omega
  rw [em]
  refine .inr ⟨p, _, [.int 0], rfl, rfl, upd_same, by omega, by omega, sz_of (by simp; omega), fun p2 hp2 => ?_⟩
  have er : (List.replicate ((s.num x).toNat : Int).toNat [V.int 0]).flatten = (List.replicate (s.num x).toNat (0 : Int)).map V.int := by
    rw [Int.toNat_natCast, List.map_replicate]
    induction (s.num x).toNat with
    | zero => rfl
    | succ n ih => rw [List.replicate_succ, List.flatten_cons, ih]; rfl
  have I2 := (I1.grow (Ex.new hp)).tup (o := .lst ((List.replicate (s.num x).toNat (0 : Int)).map V.int)) hp2
  have hG : Ex G (upd G p2 (.lst ((List.replicate (s.num x).toNat (0 : Int)).map V.int))) := Ex.new (fresh_back (I1.grow (Ex.new hp)).ex hp2)
  have I2' : MI K (upd G p2 (.lst ((List.replicate (s.num x).toNat (0 : Int)).map V.int))) (upd (upd H1 p (.lst [.int 0])) p2 (.lst ((List.replicate ((s.num x).toNat : Int).toNat [V.int 0]).flatten))) c fa fas s1 .non := by rw [er]; exact I2
  refine s_laid (E := C8.E0) P I2' upd_same (by rw [o.cur.2.1, List.length_replicate]; omega) (by rw [List.length_replicate]; omega) fun G' H' t e' I3 gt => ?_
  rw [List.length_replicate] at gt
  refine pv_fld (pv_var rfl) I3.ha P.cF P.fLain fF_lain _ (pv_var rfl _ ⟨_, _, rfl, DPut.k (k := Sum.inr a) I3.hl (by rw [hk]; exact sz_lt (by omega)), ?_⟩)
  exact k1 G' _ { fa with kv := putK fa.kv (Sum.inr a) (.ref t) } rfl (hG.trans e') (I3.setL a (p := (s1.top, ((s.num x).toNat : Int))) gt)
theorem s_on_ask (P : PF K w) (I : MI K G H c fa fas s .non) (R : RI K G row pl pa xs r) {x : Str} {lo hi : Int} (ea : r.act = .ask x lo hi) (hl : s.cur.nums.length < 100) (hlh : lo ≤ hi) {cs : List CR} (kk : Reach K G c fa fas Q (doAct cs c.wide s r)) :
    sp_on_ask K w [.ref c.m, .ref fa.a, .ref row] H Q E := by
  refine ⟨rfl, ?_⟩
  unfold t_on_ask
  obtain ⟨v1, v2, v3, hpa, a1, a2, a3⟩ := R.p3 (by rw [ea]; rfl)
  cases dp_str a1
  cases dp_int a2
  cases dp_int a3
  refine a_asg (R.at3 I.ex (pv_var rfl)) (g_n3 (ex_t I.ex hpa) ?_)
  unfold doAct at kk
  rw [ea] at kk
  have kk : Reach K G c fa fas Q (.go (({ s with left := s.left.tail }).setN x (lo + ((s.left.head?.getD 0) - lo).fmod (hi - lo + 1)))) := kk
  have sh : SeqAt.shaped (.list (s.left.map PyData.int)) = true := PySem.W.shaped_ints _
  have dl : Dp K H (.ref c.left) (.list (s.left.map PyData.int)) := .lst (sq_of I.hleft) (dpAll_ints _)
  cases hlf : s.left with
  | nil =>
    refine t_neNil (ds := s.left.map PyData.int) false (by rw [hlf]; rfl) (pv_fld (pv_var rfl) I.hm P.cM P.mLeft mF_left) dl sh fun H1 e1 => ⟨_, rfl, ?_⟩
    have I1 := I.grow e1
    rw [hlf] at kk
    refine u_false (pv_c _ ?_)
    refine a_put (pv_op (pv_var rfl) (pv_op (pv_op (pv_var rfl) (pv_var rfl) pr_sub) (pv_op (pv_op (pv_var rfl) (pv_var rfl) pr_sub) pv_c pr_add) (pr_mod (by omega))) pr_add) (pv_fld (pv_var rfl) I1.ha P.cF P.fNums fF_nums) (pv_var rfl) (dput_n I1 hl x _) ?_
    have I2 := I1.setN x (lo + ((0 : Int) - lo).fmod (hi - lo + 1))
    have es : ({ s with left := ([] : List Int) } : PM) = s := by rw [← hlf]
    have kk : Reach K G c fa fas Q (.go (({ s with left := [] }).setN x (lo + ((0 : Int) - lo).fmod (hi - lo + 1)))) := kk
    rw [es] at kk
    exact kk G _ fa rfl (Ex.refl G) I2
  | cons i is =>
    refine t_neNil (ds := s.left.map PyData.int) true (by rw [hlf]; rfl) (pv_fld (pv_var rfl) I.hm P.cM P.mLeft mF_left) dl sh fun H1 e1 => ⟨_, rfl, ?_⟩
    have I1 := I.grow e1
    rw [hlf] at kk
    have hl1 := I1.hleft
    rw [hlf] at hl1
    refine u_true ?_
    refine pv_fld (pv_var rfl) I1.hm P.cM P.mLeft mF_left _ ⟨.inl ⟨rfl, _, sq_of hl1⟩, ?_⟩
    refine pv_c _ (.inr ⟨c.left, _, 0, 0, .int i, rfl, rfl, hl1, by decide, by decide, by simp [seqIndex?], rfl, ?_⟩)
    have I2 := I1.setLeft is
    refine a_put (pv_op (pv_var rfl) (pv_op (pv_op (pv_var rfl) (pv_var rfl) pr_sub) (pv_op (pv_op (pv_var rfl) (pv_var rfl) pr_sub) pv_c pr_add) (pr_mod (by omega))) pr_add) (pv_fld (pv_var rfl) I2.ha P.cF P.fNums fF_nums) (pv_var rfl) (dput_n I2 hl x _) ?_
    exact kk G _ fa rfl (Ex.refl G) (I2.setN x _)
end
end B72


set_option Elab.async false
set_option linter.all false
set_option maxRecDepth 100000
set_option maxHeartbeats 4000000
/-! B5: frames made, calls, backs, steps. -/
namespace B72
open PySem L2 Evl R72
section
variable {K : PySem.W.Frag} {w : World} {σ : L2.St} {H : Hp} {D : Ends} {tl tv : TE} {Q : VK}
theorem foldl_len {α : Type} (va : α) : ∀ (ns : List Str) (es : List (Str × α)), (ns.foldl (fun acc x => putA acc x va) es).length ≤ es.length + ns.length
  | [], es => by simp
  | n :: ns, es => by
    have a := foldl_len va ns (putA es n va)
    have b := len_put_le es n va
    simp only [List.foldl_cons, List.length_cons]
    omega
theorem foldl_keys {α : Type} (va : α) (x : Str) : ∀ (ns : List Str) (es : List (Str × α)), (x ∈ keysA es ∨ x ∈ ns) → x ∈ keysA (ns.foldl (fun acc x => putA acc x va) es)
  | [], es, h => by
    rcases h with h | h
    · exact h
    · cases h
  | n :: ns, es, h => by
    refine foldl_keys va x ns _ ?_
    rcases h with h | h
    · exact .inl (mem_keys_put h)
    · rcases List.mem_cons.mp h with h | h
      · subst h; exact .inl mem_keys_self
      · exact .inr h
theorem foldl_vals {α : Type} (va : α) {e : Str × α} : ∀ (ns : List Str) (es : List (Str × α)), e ∈ ns.foldl (fun acc x => putA acc x va) es → e.2 = va ∨ e ∈ es
  | [], es, h => .inr h
  | n :: ns, es, h => by
    rcases foldl_vals va ns _ h with h | h
    · exact .inl h
    · rcases mem_put h with h | h
      · exact .inl (by rw [h])
      · exact .inr h
/-- {name: v for name in names}: R tells what a value is -/
theorem d_strs {α : Type} {R : Hp → V → α → Prop} {va : α} {a : Addr} {ns : List Str} {j : Nat} (hR1 : ∀ H1 H2 z b, Ex H1 H2 → R H1 z b → R H2 z b) (hR2 : ∀ H1 p kvs o z b, H1 p = some (.dK kvs) → R H1 z b → R (upd H1 p o) z b)
    (h : Pv tl σ H (.ref a)) (hx : SqT K H a (ns.map V.str)) (hl : ns.length < 100000) (hj : ∀ x, (((wipe σ [j]).set j (some x))[j]?) = some (some x)) (hw : ∀ x, wipe ((wipe σ [j]).set j (some x)) [j] = wipe σ [j])
    (hv : ∀ x H5 (Q' : VK), Ex H H5 → (∀ z H6, Ex H5 H6 → R H6 z va → Q' z H6) → tv ((wipe σ [j]).set j (some x)) H5 Q')
    (k : ∀ Dl H' kvs, H Dl = none → Ex H H' → H' Dl = some (.dK kvs) → Paired (fun kv e => kv.1 = Sum.inr e.1 ∧ R H' kv.2 e.2) kvs (ns.foldl (fun acc x => putA acc x va) []) → Q (.ref Dl) H') :
    tDc (iSeqX K tl) (gName j) tYes (tVar j) tv [j] σ H Q := by
  refine h _ ⟨a, rfl, .inr ⟨_, hx, fun Dl hD => ?_⟩⟩
  refine dc_tup (xs := ns.map V.str) (fun i H' => Ex H H' ∧ ∃ kvs, H' Dl = some (.dK kvs) ∧ Paired (fun kv e => kv.1 = Sum.inr e.1 ∧ R H' kv.2 e.2) kvs ((ns.take i).foldl (fun acc x => putA acc x va) []))
    ⟨Ex.new hD, [], upd_same, .nil⟩ (fun i H' _ p => ex_t p.1 hx) (fun i x H' hi p => ?_) fun H' p => ?_
  · obtain ⟨e1, kvs, hk, pr⟩ := p
    rw [List.getElem?_map] at hi
    obtain ⟨n, hn, rfl⟩ := Option.map_eq_some_iff.mp hi
    refine ⟨hw _, ?_⟩
    refine u_yes ?_
    refine ⟨.str n, hj _, ?_⟩
    refine hv _ H' _ e1 fun z H6 e6 r6 => ⟨kvs, Sum.inr n, rfl, e6 _ _ hk, ?_, ?_, ?_⟩
    · rw [Paired.len pr]
      have a := foldl_len va (ns.take i) []
      have b : (ns.take i).length ≤ ns.length := by rw [List.length_take]; omega
      have c0 : ([] : List (Str × α)).length = 0 := rfl
      exact sz_lt (by omega)
    · exact (e1.trans e6).mut hD
    · refine ⟨_, upd_same, ?_⟩
      have et : ns.take (i + 1) = ns.take i ++ [n] := by rw [List.take_succ, hn]; rfl
      rw [et, List.foldl_append]
      have pr2 := paired_put (f := Sum.inr) (R := R H6) inr_inj (Paired.imp (fun _ _ q => ⟨q.1, hR1 _ _ _ _ e6 q.2⟩) pr) n r6
      exact Paired.imp (fun _ _ q => ⟨q.1, hR2 _ _ kvs _ _ _ (e6 _ _ hk) q.2⟩) pr2
  · obtain ⟨e1, kvs, hk, pr⟩ := p
    have et : ns.take (ns.map V.str).length = ns := by rw [List.length_map, List.take_length]
    rw [et] at pr
    exact k Dl H' kvs hD e1 hk pr
end
/-- a head as it lies -/
structure HI (K : PySem.W.Frag) (G : Hp) (hp a1 a2 a3 : Addr) (h : Hd) : Prop where
  hr : SqT K G hp [.str "def", .ref a1, .ref a2, .ref a3, .int h.first]
  h1 : SqT K G a1 (h.params.map V.str)
  h2 : SqT K G a2 (h.numbers.map V.str)
  h3 : SqT K G a3 (h.rows.map V.str)
theorem hi_of {K : PySem.W.Frag} {G : Hp} {v : V} {h : Hd} (q : Dp K G v h.d) : ∃ hp a1 a2 a3, v = .ref hp ∧ HI K G hp a1 a2 a3 h := by
  obtain ⟨row, ys, rfl, h1, h2⟩ := dp_tup q
  obtain ⟨v1, ys, rfl, a1, h2⟩ := dpAll_cons h2
  obtain ⟨v2, ys, rfl, a2, h2⟩ := dpAll_cons h2
  obtain ⟨v3, ys, rfl, a3, h2⟩ := dpAll_cons h2
  obtain ⟨v4, ys, rfl, a4, h2⟩ := dpAll_cons h2
  obtain ⟨v5, ys, rfl, a5, h2⟩ := dpAll_cons h2
  rw [dpAll_nil h2] at h1
  obtain ⟨p2, x2, rfl, b2, c2⟩ := dp_tup a2
  obtain ⟨p3, x3, rfl, b3, c3⟩ := dp_tup a3
  obtain ⟨p4, x4, rfl, b4, c4⟩ := dp_tup a4
  rw [dp_str a1, dp_int a5] at h1
  rw [strs_of c2] at b2
  rw [strs_of c3] at b3
  rw [strs_of c4] at b4
  exact ⟨row, p2, p3, p4, rfl, h1, b2, b3, b4⟩
theorem Held.mid {G H : Hp} {c1 c2 : List (Addr × HO)} {p : Addr} {o : HO} (I : Held G (c1 ++ (p, o) :: c2) H) : H p = some o := I.cl (p, o) (by simp)
theorem Held.mid1 {G H : Hp} {c1 c2 c3 : List (Addr × HO)} {p : Addr} {o : HO} (I : Held G (c1 ++ (p, o) :: c2 ++ c3) H) : H p = some o := I.cl (p, o) (by simp)
theorem Held.new1 {G H H' : Hp} {M : List (Addr × HO)} (I1 : Held G M H) {N : Addr} {o : HO} (hN : H N = none) (e3 : Ex H H') (hk : H' N = some o) : Held G (M ++ [(N, o)]) H' := by
  have I1' := I1.grow e3
  have hf := I1.fresh hN
  refine ⟨I1'.ex, fun y hy => ?_, ?_, fun a ha => ?_⟩
  · rcases List.mem_append.mp hy with q | q
    · exact I1'.cl y q
    · rw [List.mem_singleton.mp q]; exact hk
  · rw [List.map_append]
    refine List.nodup_append.mpr ⟨I1.nd, by simp, fun a ha b hb => ?_⟩
    have eb : b = N := by simpa using hb
    subst eb
    exact fun q => hf (q ▸ ha)
  · rw [List.map_append] at ha
    rcases List.mem_append.mp ha with q | q
    · exact I1.gone a q
    · have ea : a = N := by simpa using q
      rw [ea]; exact fresh_back I1.ex hN
section
variable {K : PySem.W.Frag} {w : World} {G G' H H' : Hp} {M : List (Addr × HO)} {Q : VK} {E : XK} {σ : L2.St} {D : Ends} {hd : Hd} {hp a1 a2 a3 : Addr}
/-- a new frame -/
theorem t_frame (P : PF K w) (I : Held G M H) (R : HI K H hp a1 a2 a3 hd) {ta : TA} {top : Int} (ha : Pa ta σ H [.ref hp, .int top]) (hl : hd.numbers.length ≤ 100 ∧ hd.rows.length ≤ 100)
    (k : ∀ G' H' fa, Ex G G' → Ex H H' → Held G' (M ++ fcells K fa (frame0 hd top)) H' → LP G' fa.kv (frame0 hd top).lain → fa.kv.length ≤ 100 → Q (.ref fa.a) H') :
    tMake (He.ga K "Frame") (sp_Frame_init K w) [] C8.E0 ta σ H Q := by
  refine ha _ fun x dx hx hdx hne => ?_
  refine ⟨rfl, ?_⟩
  unfold t_Frame_init
  -- the object
  have hx1 : (upd H dx (.own x)) x = none := by rw [upd_ne (fun q => hne q.symm)]; exact hx
  have e1 : Ex H (upd H dx (.own x)) := Ex.new hdx
  have I1 := (I.grow e1).new (o := .ins (He.ga K "Frame") dx []) hx1
  have e2 : Ex H (upd (upd H dx (.own x)) x (.ins (He.ga K "Frame") dx [])) := e1.trans (Ex.new hx1)
  generalize hH2 : upd (upd H dx (.own x)) x (.ins (He.ga K "Frame") dx []) = H2 at I1 e2
  -- numbers
  refine u_fld (d_strs (R := fun _ z b => z = V.int b) (va := (0 : Int)) (ns := hd.numbers) (fun _ _ _ _ _ q => q) (fun _ _ _ _ _ _ _ q => q) (pv_op (pv_var rfl) pv_c (pr_ixt (ex_t e2 R.hr) rfl)) (ex_t e2 R.h2) (by omega) (fun _ => rfl) (fun _ => rfl) (fun x H5 Q' _ q => q _ _ (Ex.refl _) rfl) fun N H3 kvs hN e3 hk pr => ?_)
  have ek : kvs = (frame0 hd top).nums.map kvN := by
    show kvs = (hd.numbers.foldl (fun acc x => putA acc x 0) []).map kvN
    generalize hd.numbers.foldl (fun acc x => putA acc x (0 : Int)) [] = es at pr
    clear hk
    induction pr with
    | nil => rfl
    | @cons kv e kvs es h hs ih =>
      rw [List.map_cons, ← ih]
      congr 1
      exact Prod.ext h.1 h.2
  subst ek
  have I2 := I1.new1 hN e3 hk
  have e23 := e2.trans e3
  clear hN hk
  refine pv_var rfl _ ⟨x, _, dx, [], rfl, I2.mid1, P.cF, P.fNums, by show 0 < 1000; decide, ?_⟩
  have I3 := I2.chg (p := x) (o := .ins (He.ga K "Frame") dx []) (o' := .ins (He.ga K "Frame") dx [("numbers", .ref N)]) M (c2 := [(N, .dK ((frame0 hd top).nums.map kvN))]) (by rw [List.append_assoc]; rfl)
  have hx0 : H x = none := hx
  have e4 : Ex H (upd H3 x (.ins (He.ga K "Frame") dx [("numbers", .ref N)])) := e23.mut hx0
  generalize hH4 : upd H3 x (.ins (He.ga K "Frame") dx [("numbers", .ref N)]) = H4 at I3 e4
  have I3 : Held G (M ++ [(x, .ins (He.ga K "Frame") dx [("numbers", .ref N)]), (N, .dK ((frame0 hd top).nums.map kvN))]) H4 := I3
  have ep : putF (("numbers" : String) : Str) (V.ref N) [] = ([("numbers", .ref N)] : List (Str × V)) := rfl
  rw [ep, hH4]
  -- rows
  refine u_fld (d_strs (R := fun H1 z b => ∃ t, z = V.ref t ∧ H1 t = some (.tup [.int b.1, .int b.2]) ∧ H t = none) (va := ((0, 0) : Int × Int)) (ns := hd.rows) (by rintro H1 H2 z b e ⟨t, a, q, c⟩; exact ⟨t, a, e _ _ q, c⟩)
    (by rintro H1 p kvs o z b hp ⟨t, a, q, c⟩; exact ⟨t, a, by rw [upd_ne (ne_of q hp (by intro q; cases q))]; exact q, c⟩) (pv_op (pv_var rfl) pv_c (pr_ixt (ex_t e4 R.hr) rfl)) (ex_t e4 R.h3) (by omega) (fun _ => rfl) (fun _ => rfl)
    (fun z H5 Q' e q => t_tup (pa_cons pv_c (pa_cons pv_c pa_nil)) (by show 2 ≤ 100000; decide) fun t ht => q _ _ (Ex.new ht) ⟨t, rfl, upd_same, fresh_back (e4.trans e) ht⟩) fun L H5 kvs hL e5 hk pr => ?_)
  have I4 := I3.new1 hL e5 hk
  have e45 := e4.trans e5
  clear hL
  refine pv_var rfl _ ⟨x, _, dx, [("numbers", .ref N)], rfl, I4.mid1, P.cF, P.fLain, by show 1 < 1000; decide, ?_⟩
  have I5 := I4.chg (p := x) (o := .ins (He.ga K "Frame") dx [("numbers", .ref N)]) (o' := .ins (He.ga K "Frame") dx [("numbers", .ref N), ("lain", .ref L)]) M (c2 := [(N, .dK ((frame0 hd top).nums.map kvN)), (L, .dK kvs)]) (by rw [List.append_assoc]; rfl)
  have pr2 := Paired.imp (S := fun (kv : Key × V) (e : Str × (Int × Int)) => kv.1 = Sum.inr e.1 ∧ ∃ t, kv.2 = V.ref t ∧ upd H5 x (.ins (He.ga K "Frame") dx [("numbers", .ref N), ("lain", .ref L)]) t = some (.tup [.int e.2.1, .int e.2.2]) ∧ H t = none)
    (fun kv e ⟨q, t, b, c, d⟩ => ⟨q, t, b, by rw [upd_ne (ne_of c I4.mid1 (by intro q; cases q))]; exact c, d⟩) pr
  have e6 : Ex H (upd H5 x (.ins (He.ga K "Frame") dx [("numbers", .ref N), ("lain", .ref L)])) := e45.mut hx0
  refine u_fld (pv_var rfl _ (pv_var rfl _ ⟨x, _, dx, [("numbers", .ref N), ("lain", .ref L)], rfl, I5.mid, P.cF, P.fAhead, by show 2 < 1000; decide, ?_⟩))
  have I6 := I5.chg (p := x) (o := .ins (He.ga K "Frame") dx [("numbers", .ref N), ("lain", .ref L)]) (o' := .ins (He.ga K "Frame") dx [("numbers", .ref N), ("lain", .ref L), ("ahead", .int top)]) M (c2 := [(N, .dK ((frame0 hd top).nums.map kvN)), (L, .dK kvs)]) rfl
  have e7 := e6.mut (o := .ins (He.ga K "Frame") dx [("numbers", .ref N), ("lain", .ref L), ("ahead", .int top)]) hx0
  refine u_fld (pv_op (pv_var rfl) pv_c (pr_ixt (ex_t e7 R.hr) rfl) _ (pv_var rfl _ ⟨x, _, dx, [("numbers", .ref N), ("lain", .ref L), ("ahead", .int top)], rfl, I6.mid, P.cF, P.fAt, by show 3 < 1000; decide, ?_⟩))
  have I7 := I6.chg (p := x) (o := .ins (He.ga K "Frame") dx [("numbers", .ref N), ("lain", .ref L), ("ahead", .int top)]) (o' := .ins (He.ga K "Frame") dx [("numbers", .ref N), ("lain", .ref L), ("ahead", .int top), ("at", .int hd.first)]) M (c2 := [(N, .dK ((frame0 hd top).nums.map kvN)), (L, .dK kvs)]) rfl
  have e8 := e7.mut (o := .ins (He.ga K "Frame") dx [("numbers", .ref N), ("lain", .ref L), ("ahead", .int top), ("at", .int hd.first)]) hx0
  obtain ⟨I8, eG⟩ := I7.most
  refine ⟨rfl, k _ _ ⟨x, dx, N, L, kvs⟩ eG e8 I8 ?_ ?_⟩
  · refine Paired.imp (fun kv e ⟨q, t, b, c, d⟩ => ⟨q, t, b, ?_⟩) pr2
    have hne : t ≠ x := fun z => by
      rw [z, upd_same] at c
      cases c
    unfold hide
    rw [if_neg, upd_ne hne, upd_ne hne]
    · rw [upd_ne hne] at c
      rw [upd_ne hne]
      exact c
    · intro hm
      rw [List.map_append] at hm
      rcases List.mem_append.mp hm with q | q
      · obtain ⟨y, hy, ey⟩ := List.mem_map.mp q
        have h1 := I.cl y hy
        rw [ey, d] at h1
        cases h1
      · have q : t = x ∨ t = N ∨ t = L := by simpa using q
        have c1 : H5 t = some (.tup [.int e.2.1, .int e.2.2]) := by rw [upd_ne hne] at c; exact c
        rcases q with q | q | q
        · exact hne q
        · have c2 := I4.cl (N, .dK ((frame0 hd top).nums.map kvN)) (by simp)
          rw [q] at c1
          rw [c1] at c2
          cases c2
        · have c2 := I4.cl (L, .dK kvs) (by simp)
          rw [q] at c1
          rw [c1] at c2
          cases c2
  · have a := Paired.len pr
    have b := foldl_len ((0, 0) : Int × Int) hd.rows []
    have c0 : ([] : List (Str × (Int × Int))).length = 0 := rfl
    show kvs.length ≤ 100
    omega
end
end B72


set_option Elab.async false
set_option linter.all false
set_option maxRecDepth 100000
set_option maxHeartbeats 4000000
/-! B6: calls, backs, steps. -/
namespace B72
open PySem L2 Evl R72
def flOf (fa : FA) (fas : List FA) : List V := ((fa :: fas).map fun f => V.ref f.a).reverse
def ReachF (K : PySem.W.Frag) (G : Hp) (c : MC) (Q : VK) (o : Out) : Prop := match o with
  | .go s' => ∀ G' H' fa fas, Ex G G' → MI K G' H' { c with fl := flOf fa fas } fa fas s' .non → Q .non H'
  | .fin f => ∀ G' H', Ex G G' → Done K G' H' c f → Q .non H'
theorem ReachF.reach {K : PySem.W.Frag} {G : Hp} {c : MC} {fa : FA} {fas : List FA} {Q : VK} {o : Out} (h : ReachF K G c Q o) (hfl : c.fl = flOf fa fas) : Reach K G c fa fas Q o := by
  cases o with
  | go s' =>
    intro G' H' fa' ea e I
    refine h G' H' fa' fas e ?_
    have ef : ({ c with fl := flOf fa' fas } : MC) = c := by
      have e2 : flOf fa' fas = flOf fa fas := by unfold flOf; rw [List.map_cons, List.map_cons, ea]
      rw [e2, ← hfl]
    rw [ef]
    exact I
  | fin f => exact h
/-- the rows as they lie -/
structure CI (K : PySem.W.Frag) (G : Hp) (code : Addr) (vals : List V) (cs : List CR) : Prop where
  h : SqL K G code vals
  d : DpAll K G vals (cs.map CR.d)
theorem CI.ex {K : PySem.W.Frag} {G G' : Hp} {code : Addr} {vals : List V} {cs : List CR} (h : CI K G code vals cs) (e : Ex G G') : CI K G' code vals cs := ⟨ex_l e h.h, dpAll_ex e _ h.d⟩
theorem CI.at {K : PySem.W.Frag} {G : Hp} {code : Addr} {vals : List V} {cs : List CR} (C : CI K G code vals cs) {i : Int} (h0 : 0 ≤ i) {r : CR} (h : cs[i.toNat]? = some r) : ∃ v, atI vals i = some v ∧ Dp K G v r.d := by
  obtain ⟨v, hv, hd⟩ := dpAll_get C.d (i := i.toNat) (d := r.d) (by rw [List.getElem?_map, h]; rfl)
  have hl := (List.getElem?_eq_some_iff.mp hv).1
  exact ⟨v, by rw [atI_nat h0 (by omega)]; exact hv, hd⟩
section
variable {K : PySem.W.Frag} {w : World} {G G' H H' : Hp} {c : MC} {fa fa' : FA} {fas : List FA} {s s' : PM} {row pl pa : Addr} {xs : List V} {r : Row} {Q : VK} {E : XK} {σ : L2.St} {D : Ends} {vals : List V} {cs : List CR}
theorem f_zipT {g : TG} {tb : TS} {ta : TA} {a b : Addr} {xs ys : List V} (h : Pa ta σ H [.ref a, .ref b]) (hx : SqT K H a xs) (hy : SqT K H b ys) (hl : xs.length = ys.length) (Pv : Nat → L2.St → Hp → Prop) (h0 : Pv 0 σ H) (hq : ∀ i σ H, Pv i σ H → SqT K H a xs ∧ SqT K H b ys)
    (hs : ∀ (i : Nat) (x y : V) (T : Addr) (σ : L2.St) (H : Hp), xs[i]? = some x → ys[i]? = some y → Pv i σ H → H T = none → g (.ref T) σ (upd H T (.tup [x, y])) fun σ2 H2 => tb { D with nx := Pv (i + 1), ct := Pv (i + 1), bk := D.nx } σ2 H2) (hd : ∀ σ H, Pv xs.length σ H → D.nx σ H) :
    tFor (iZipX K ta) g tb D σ H := h _ (.inl ⟨a, b, xs, ys, rfl, .inr ⟨hx, hy, RZ.for_zipT hl Pv h0 hq hs hd⟩⟩)
/-! the frame below -/
theorem MI.ha1 {fa1 : FA} {f : Fr} {fs : List Fr} (I : MI K G H c fa (fa1 :: fas) s .non) (hb : s.below = f :: fs) : H fa1.a = some (.ins (He.ga K "Frame") fa1.dx (fF fa1 f.ahead f.at_)) := I.cl (fa1.a, _) (by simp [cells, fcells, bcells, hb])
theorem MI.hn1 {fa1 : FA} {f : Fr} {fs : List Fr} (I : MI K G H c fa (fa1 :: fas) s .non) (hb : s.below = f :: fs) : H fa1.n = some (.dK (f.nums.map kvN)) := I.cl (fa1.n, _) (by simp [cells, fcells, bcells, hb])
theorem MI.hl1 {fa1 : FA} {f : Fr} {fs : List Fr} (I : MI K G H c fa (fa1 :: fas) s .non) (hb : s.below = f :: fs) : H fa1.l = some (.dK fa1.kv) := I.cl (fa1.l, _) (by simp [cells, fcells, bcells, hb])
theorem MI.lr1 {fa1 : FA} {f : Fr} {fs : List Fr} (I : MI K G H c fa (fa1 :: fas) s .non) (hb : s.below = f :: fs) : LP G fa1.kv f.lain := by
  have q := I.bl
  rw [hb] at q
  cases q with
  | cons a _ => exact a
theorem MI.setF (I : MI K G H c fa fas s .non) (l : List V) : MI K G (upd H c.frs (.lst l)) { c with fl := l } fa fas s .non := I.chg [_, _, _] rfl rfl I.lr I.bl
theorem give1_len {cur : Fr} {a : PM × Fr} {q : Str × Str} (hlv : ∀ e ∈ cur.lain, 0 ≤ e.2.2 ∧ e.2.2 ≤ 31) : (give1 cur a q).1.mem.length ≤ a.1.mem.length + 31 ∧ (give1 cur a q).2.nums.length ≤ a.2.nums.length + 1 ∧ (give1 cur a q).2.lain.length ≤ a.2.lain.length + 1 ∧ (give1 cur a q).1.below = a.1.below := by
  unfold give1
  cases h : getA cur.lain q.2 with
  | some l =>
    have b := hlv _ (mem_get h)
    have c0 := laidM_len a.1.mem a.1.top (a.1.cells l)
    have c1 : (a.1.cells l).length = l.2.toNat := by unfold PM.cells; rw [List.length_map, List.length_range]
    have b : 0 ≤ l.2 ∧ l.2 ≤ 31 := b
    exact ⟨by show (laidM a.1.mem a.1.top (a.1.cells l)).length ≤ _; omega, Nat.le_succ _, len_put_le _ _ _, rfl⟩
  | none => exact ⟨Nat.le_add_right _ _, len_put_le _ _ _, Nat.le_succ _, rfl⟩
theorem give_len {cur : Fr} (hlv : ∀ e ∈ cur.lain, 0 ≤ e.2.2 ∧ e.2.2 ≤ 31) : ∀ (l : List (Str × Str)) (s : PM) (f : Fr), (give cur l s f).1.mem.length ≤ s.mem.length + 31 * l.length ∧ (give cur l s f).2.nums.length ≤ f.nums.length + l.length ∧ (give cur l s f).2.lain.length ≤ f.lain.length + l.length ∧ (give cur l s f).1.below = s.below
  | [], s, f => ⟨Nat.le_refl _, Nat.le_refl _, Nat.le_refl _, rfl⟩
  | q :: l, s, f => by
    have a : (give1 cur (s, f) q).1.mem.length ≤ s.mem.length + 31 ∧ (give1 cur (s, f) q).2.nums.length ≤ f.nums.length + 1 ∧ (give1 cur (s, f) q).2.lain.length ≤ f.lain.length + 1 ∧ (give1 cur (s, f) q).1.below = s.below := give1_len (cur := cur) (a := (s, f)) (q := q) hlv
    have b := give_len hlv l (give1 cur (s, f) q).1 (give1 cur (s, f) q).2
    have e : give cur (q :: l) s f = give cur l (give1 cur (s, f) q).1 (give1 cur (s, f) q).2 := rfl
    rw [e, List.length_cons]
    refine ⟨by omega, by omega, by omega, b.2.2.2.trans a.2.2.2⟩
/-- the frame that calls, while the new one is made ready -/
def PM.with_ (a : PM × Fr) (cur : Fr) : PM := { a.1 with cur := a.2, below := cur :: a.1.below }
theorem s_on_call (P : PF K w) (I : MI K G H c fa fas s .non) (R : RI K G row pl pa xs r) {x : Str} {h : Int} {gs : List Str} (ea : r.act = .call x h gs) (C : CI K G c.code vals cs) (hfl : c.fl = flOf fa fas) (h0 : 0 ≤ h) {hd : Hd} (hh : cs[h.toNat]? = some (.hd hd))
    (hpl : hd.params.length = gs.length) (hlen : hd.params.length ≤ 7 ∧ hd.numbers.length ≤ 7 ∧ hd.rows.length ≤ 7) (hg : ∀ g ∈ gs, g ∈ keysA s.cur.nums ∨ g ∈ keysA s.cur.lain) (hlv : ∀ e ∈ s.cur.lain, 0 ≤ e.2.2 ∧ e.2.2 ≤ 31) (hm : s.mem.length < 1000000)
    {W : Int} (kk : ReachF K G c Q (doAct cs W s r)) : sp_on_call K w [.ref c.m, .ref fa.a, .ref row] H Q E := by
  refine ⟨rfl, ?_⟩
  unfold t_on_call
  obtain ⟨v1, v2, v3, hpa, a1, a2, a3⟩ := R.p3 (by rw [ea]; rfl)
  cases dp_str a1
  cases dp_int a2
  obtain ⟨gp, gvs, rfl, hgp, hgd⟩ := dp_tup a3
  rw [strs_of hgd] at hgp
  refine a_asg (R.at3 I.ex (pv_var rfl)) (g_n3 (ex_t I.ex hpa) ?_)
  have elen : ((c.fl.length : Nat) : Int) = ((s.below.length + 1 : Nat) : Int) := by
    have q := Paired.len I.bl
    rw [hfl]
    unfold flOf
    simp only [List.length_reverse, List.length_map, List.length_cons, q]
  have kk2 : ReachF K G c Q (if 20 < ((s.below.length + 1 : Nat) : Int) then s.end_ (.tuple [.str "fault", .str "deep", placeD r.lab]) else
      .go { (give s.cur ((headAt cs h).params.zip gs) s (frame0 (headAt cs h) s.top)).1 with below := s.cur :: s.below, cur := (give s.cur ((headAt cs h).params.zip gs) s (frame0 (headAt cs h) s.top)).2 }) := by
    unfold doAct at kk
    rw [ea] at kk
    exact kk
  refine a_if (pt_test (pv_op (pv_lenl (pv_fld (pv_var rfl) I.hm P.cM P.mFrames mF_frs) (sq_of I.hfrs)) pv_c pr_gt)) (fun hb => ?_) fun hb => ?_
  · -- too deep
    have hb : 20 < ((s.below.length + 1 : Nat) : Int) := by rw [← elen]; exact of_decide_eq_true hb
    rw [if_pos hb] at kk2
    refine u_fld (t_tup (pa_cons pv_c (pa_cons pv_c (pa_cons (R.at1 I.ex (pv_var rfl)) pa_nil))) (by show 3 ≤ 100000; decide) fun t ht => ?_)
    have I2 := I.tup (o := .tup [.str "fault", .str "deep", .ref pl]) ht
    have d := done3 I R "deep" ht s.many s.looks
    refine pv_var rfl _ ⟨c.m, _, c.dx, _, rfl, I2.hm, P.cM, P.mEnd, mF_len, ?_⟩
    exact kk2 _ _ (Ex.new (fresh_back I.ex ht)) d
  · have hb : ¬ 20 < ((s.below.length + 1 : Nat) : Int) := by rw [← elen]; exact of_decide_eq_false hb
    rw [if_neg hb] at kk2
    obtain ⟨hv, hat, hdp⟩ := C.at h0 hh
    obtain ⟨hp, q1, q2, q3, rfl, HH⟩ := hi_of hdp
    have eh : headAt cs h = hd := by unfold headAt; rw [hh]
    rw [eh] at kk2
    refine a_asg (pv_op (pv_fld (pv_var rfl) I.hm P.cM P.mCode mF_code) (pv_var rfl) (pr_ixl (ex_l I.ex C.h) hat)) ?_
    refine u_asg (t_frame P I.toHeld (⟨ex_t I.ex HH.hr, ex_t I.ex HH.h1, ex_t I.ex HH.h2, ex_t I.ex HH.h3⟩ : HI K H hp q1 q2 q3 hd) (pa_cons (pv_var rfl) (pa_cons (pv_fld (pv_var rfl) I.hm P.cM P.mTop mF_top) pa_nil)) (by omega) fun G1 H1 fa2 e1 e1' I1 lp1 lk1 => ?_)
    have I2 : MI K G1 H1 c fa2 (fa :: fas) (PM.with_ (s, frame0 hd s.top) s.cur) .non := by
      refine ⟨I1.perm ?_, lp1, .cons (I.lr.ex e1) (Paired.imp (fun _ _ q => LP.ex e1 q) I.bl)⟩
      show ((_ :: _ :: _ :: _ :: _ :: (fcells K fa s.cur ++ bcells K fas s.below)) ++ fcells K fa2 (frame0 hd s.top)).Perm (_ :: _ :: _ :: _ :: _ :: (fcells K fa2 (frame0 hd s.top) ++ (fcells K fa s.cur ++ bcells K fas s.below)))
      exact ((((List.perm_append_comm).cons _).cons _).cons _ |>.cons _).cons _
    have hfb : (frame0 hd s.top).nums.length ≤ 7 ∧ (frame0 hd s.top).lain.length ≤ 7 := by
      have a := foldl_len (0 : Int) hd.numbers []
      have b := foldl_len ((0, 0) : Int × Int) hd.rows []
      have c0 : ([] : List (Str × Int)).length = 0 := rfl
      have c1 : ([] : List (Str × (Int × Int))).length = 0 := rfl
      exact ⟨by show (hd.numbers.foldl (fun acc x => putA acc x 0) []).length ≤ 7; omega, by show (hd.rows.foldl (fun acc x => putA acc x ((0, 0) : Int × Int)) []).length ≤ 7; omega⟩
    have hzl : (hd.params.zip gs).length ≤ 7 := by rw [List.length_zip]; omega
    refine f_zipT (a := q1) (b := gp) (xs := hd.params.map V.str) (ys := gs.map V.str) (pa_cons (pv_op (pv_var rfl) pv_c (pr_ixt (ex_t I2.ex (ex_t e1 HH.hr)) rfl)) (pa_cons (pv_var rfl) pa_nil)) (ex_t I2.ex (ex_t e1 HH.h1)) (ex_t I2.ex (ex_t e1 hgp)) (by rw [List.length_map, List.length_map, hpl])
      (fun i σ' H' => (∃ o8 o9, σ' = [some (.ref c.m), some (.ref fa.a), some (.ref row), some (.str x), some (.int h), some (.ref gp), some (.ref hp), some (.ref fa2.a), o8, o9]) ∧
        ∃ G' fa', fa'.a = fa2.a ∧ Ex G1 G' ∧ MI K G' H' c fa' (fa :: fas) (PM.with_ (give s.cur ((hd.params.zip gs).take i) s (frame0 hd s.top)) s.cur) .non)
      ⟨⟨_, _, rfl⟩, G1, fa2, rfl, Ex.refl _, I2⟩ (fun i σ' H' p => ?_) (fun i x1 y1 T σ' H' hx hy p hT => ?_) fun σ' H' p => ?_
    · obtain ⟨_, G', fa', _, e', I'⟩ := p
      exact ⟨ex_t (e'.trans I'.ex) (ex_t e1 HH.h1), ex_t (e'.trans I'.ex) (ex_t e1 hgp)⟩
    · obtain ⟨⟨o8, o9, rfl⟩, G', fa', efa, e', I'⟩ := p
      rw [List.getElem?_map] at hx hy
      obtain ⟨pn, hpn, rfl⟩ := Option.map_eq_some_iff.mp hx
      obtain ⟨g, hgn, rfl⟩ := Option.map_eq_some_iff.mp hy
      have hzi : (hd.params.zip gs)[i]? = some (pn, g) := by rw [List.getElem?_zip_eq_some]; exact ⟨hpn, hgn⟩
      have et : (hd.params.zip gs).take (i + 1) = (hd.params.zip gs).take i ++ [(pn, g)] := by rw [List.take_succ, hzi]; rfl
      have eg : give s.cur ((hd.params.zip gs).take (i + 1)) s (frame0 hd s.top) = give1 s.cur (give s.cur ((hd.params.zip gs).take i) s (frame0 hd s.top)) (pn, g) := by
        rw [et]; unfold give; rw [List.foldl_append]; rfl
      have hti : ((hd.params.zip gs).take i).length ≤ 7 := by rw [List.length_take]; omega
      have gl := give_len hlv ((hd.params.zip gs).take i) s (frame0 hd s.top)
      generalize hgi : give s.cur ((hd.params.zip gs).take i) s (frame0 hd s.top) = gi at I' eg gl
      rw [eg]
      have I3 := I'.grow (Ex.new (o := .tup [.str pn, .str g]) hT)
      refine g_n2 (st_of upd_same) ?_
      have hb1 : (PM.with_ gi s.cur).below = s.cur :: gi.1.below := rfl
      have lpc := I3.lr1 hb1
      have hfk : Pv (tFld K (tVar 1) "lain") [some (.ref c.m), some (.ref fa.a), some (.ref row), some (.str x), some (.int h), some (.ref gp), some (.ref hp), some (.ref fa2.a), some (.str pn), some (.str g)] (upd H' T (.tup [.str pn, .str g])) (.ref fa.l) := pv_fld (pv_var rfl) (I3.ha1 hb1) P.cF P.fLain fF_lain
      have dg := DGet.k (k := Sum.inr g) (I3.hl1 hb1)
      rcases paired_val (f := Sum.inr) inr_inj lpc g with ⟨n1, n2⟩ | ⟨v, l, n1, n2, t, rfl, ht⟩
      · rw [n2] at dg
        have egive : give1 s.cur gi (pn, g) = (gi.1, { gi.2 with nums := putA gi.2.nums pn ((getA s.cur.nums g).getD 0) }) := by unfold give1; rw [n1]
        rw [egive]
        refine a_if (b := false) (pt_B (pv_din (pv_var rfl) hfk dg)) (fun z => by cases z) fun _ => ?_
        have hgk : g ∈ keysA s.cur.nums := by
          rcases hg g (List.mem_of_getElem? hgn) with z | z
          · exact z
          · obtain ⟨v, hv, _⟩ := get_some z
            rw [n1] at hv; cases hv
        obtain ⟨v, hv, _⟩ := get_some hgk
        have dn := DGet.k (k := Sum.inr g) (I3.hn1 hb1)
        have ev : valV (s.cur.nums.map kvN) (Sum.inr g) = (getA s.cur.nums g).map V.int := valV_map inr_inj _ _
        rw [ev, hv] at dn
        rw [hv]
        refine a_put (pv_get (pv_fld (pv_var rfl) (I3.ha1 hb1) P.cF P.fNums fF_nums) (pv_var rfl) dn) (pv_fld (pv_var (by show some (some (V.ref fa2.a)) = some (some (V.ref fa'.a)); rw [efa])) I3.ha P.cF P.fNums fF_nums) (pv_var rfl)
          (dput_n I3 (by show gi.2.nums.length < 100; omega) pn _) ⟨⟨_, _, rfl⟩, G', fa', efa, e', ?_⟩
        exact I3.setN pn v
      · rw [n2] at dg
        have egive : give1 s.cur gi (pn, g) = (gi.1.lay (gi.1.cells l), { gi.2 with lain := putA gi.2.lain pn (gi.1.top, l.2) }) := by unfold give1; rw [n1]
        rw [egive]
        have hl2 := hlv _ (mem_get n1)
        have hl2 : 0 ≤ l.2 ∧ l.2 ≤ 31 := hl2
        refine a_if (b := true) (pt_B (pv_din (pv_var rfl) hfk dg)) (fun _ => ?_) fun z => by cases z
        refine t_methK (pv_var rfl) I3.hm mF_m2 (u_cons (t_meth (pv_var rfl) I3.hm mF_m3 (pa_cons (pv_get hfk (pv_var rfl) dg) pa_nil) ?_))
        refine s_cells P I3 (l := l) (st_of (I3.ex _ _ ht)) (by omega) fun p hp => ?_
        have I4 := I3.tup (o := .lst (((PM.with_ gi s.cur).cells l).map V.int)) hp
        have eG4 : Ex G' (upd G' p (.lst (((PM.with_ gi s.cur).cells l).map V.int))) := Ex.new (fresh_back I3.ex hp)
        have ecl : ((PM.with_ gi s.cur).cells l).length = l.2.toNat := by unfold PM.cells; rw [List.length_map, List.length_range]
        refine s_laid (E := C8.E0) P I4 upd_same (by rw [ecl]; show gi.1.mem.length + _ < _; omega) (by omega) fun G5 H5 t5 e5 I5 gt => ?_
        have hkl : fa'.kv.length ≤ 50 := by
          have := Paired.len I'.lr
          have z : (PM.with_ gi s.cur).cur.lain.length = gi.2.lain.length := rfl
          omega
        refine pv_fld (pv_var (by show some (some (V.ref fa2.a)) = some (some (V.ref fa'.a)); rw [efa])) I5.ha P.cF P.fLain fF_lain _ (pv_var rfl _ ⟨_, _, rfl, DPut.k (k := Sum.inr pn) I5.hl (sz_lt (by omega)), ?_⟩)
        rw [ecl] at gt
        have e31 : ((l.2.toNat : Nat) : Int) = l.2 := by omega
        rw [e31] at gt
        exact ⟨⟨_, _, rfl⟩, G5, { fa' with kv := putK fa'.kv (Sum.inr pn) (.ref t5) }, efa, e'.trans (eG4.trans e5), I5.setL pn (p := (gi.1.top, l.2)) gt⟩
    · obtain ⟨⟨o8, o9, rfl⟩, G', fa', efa, e', I'⟩ := p
      have et : (hd.params.zip gs).take (hd.params.map V.str).length = hd.params.zip gs := List.take_of_length_le (by rw [List.length_map, List.length_zip]; omega)
      rw [et] at I'
      have hfa : c.fl.length ≤ 21 := by
        have : c.fl.length = s.below.length + 1 := by omega
        omega
      refine a_app (pv_fld (pv_var rfl) I'.hm P.cM P.mFrames mF_frs) (pv_var rfl) I'.hfrs (sz_lt (by omega)) ?_
      have I3 := I'.setF (c.fl ++ [.ref fa2.a])
      have efl : c.fl ++ [.ref fa2.a] = flOf fa' (fa :: fas) := by
        rw [hfl, ← efa]; unfold flOf; simp
      rw [efl] at I3 ⊢
      refine kk2 G' _ fa' (fa :: fas) (e1.trans e') ?_
      have eb := (give_len hlv (hd.params.zip gs) s (frame0 hd s.top)).2.2.2
      unfold PM.with_ at I3
      rw [eb] at I3
      exact I3
end
end B72


set_option Elab.async false
set_option linter.all false
set_option maxRecDepth 100000
set_option maxHeartbeats 4000000
/-! B7: backs, steps. -/
namespace B72
open PySem L2 Evl R72
section
variable {K : PySem.W.Frag} {w : World} {G G' H H' : Hp} {c : MC} {fa fa' : FA} {fas : List FA} {s s' : PM} {row pl pa : Addr} {xs : List V} {r : Row} {Q : VK} {E : XK} {σ : L2.St} {D : Ends} {vals : List V} {cs : List CR}
theorem flOf_cons (fa : FA) (fas : List FA) : flOf fa fas = (fas.map fun f => V.ref f.a).reverse ++ [.ref fa.a] := by unfold flOf; simp
theorem MI.pop {fa1 : FA} {f : Fr} {fs : List Fr} (I : MI K G H c fa (fa1 :: fas) s .non) (hb : s.below = f :: fs) : MI K G H c fa1 fas { s with below := fs, cur := f } .non := by
  refine ⟨I.toHeld.sub ?_, I.lr1 hb, ?_⟩
  · have ec : cells K c fa (fa1 :: fas) s .non = _ :: _ :: _ :: _ :: _ :: (fcells K fa s.cur ++ bcells K (fa1 :: fas) s.below) := rfl
    rw [ec, hb]
    show List.Sublist (_ :: _ :: _ :: _ :: _ :: (fcells K fa1 f ++ bcells K fas fs)) (_ :: _ :: _ :: _ :: _ :: (fcells K fa s.cur ++ (fcells K fa1 f ++ bcells K fas fs)))
    exact (((((List.sublist_append_right _ _).cons₂ _).cons₂ _).cons₂ _).cons₂ _).cons₂ _
  · have q := I.bl
    rw [hb] at q
    cases q with
    | cons _ q => exact q
theorem s_on_back (P : PF K w) (I : MI K G H c fa fas s .non) (R : RI K G row pl pa xs r) {x : Str} (ea : r.act = .back x) (hx : x ∈ keysA s.cur.nums) (C : CI K G c.code vals cs) (hfl : c.fl = flOf fa fas)
    (hbel : ∀ f fs, s.below = f :: fs → 1 ≤ f.at_ ∧ f.nums.length < 100 ∧ ∃ y h gs l k o, rowAt cs (f.at_ - 1) = some ⟨.call y h gs, l, k, o⟩)
    {W : Int} (kk : ReachF K G c Q (doAct cs W s r)) : sp_on_back K w [.ref c.m, .ref fa.a, .ref row] H Q E := by
  refine ⟨rfl, ?_⟩
  unfold t_on_back
  obtain ⟨v1, hpa, a1⟩ := R.p1 (by rw [ea]; rfl)
  cases dp_str a1
  refine a_asg (pv_get (pv_fld (pv_var rfl) I.ha P.cF P.fNums fF_nums) (pv_op (R.at3 I.ex (pv_var rfl)) pv_c (pr_ixt (ex_t I.ex hpa) rfl)) (I.getN hx)) ?_
  have hfr := I.hfrs
  rw [hfl, flOf_cons] at hfr
  refine u_drop (u_bm0 (pv_fld (pv_var rfl) I.hm P.cM P.mFrames mF_frs _ ⟨.inl ⟨rfl, _, sq_of hfr⟩, .inl ⟨c.frs, _, .ref fa.a, rfl, rfl, hfr, by simp, ?_⟩⟩))
  rw [List.dropLast_concat]
  have I1 := I.setF ((fas.map fun f => V.ref f.a).reverse)
  refine a_fld (pv_fld (pv_var rfl) I1.ha P.cF P.fAhead fF_ahead) (pv_var rfl) I1.hm P.cM P.mTop mF_len ?_
  rw [mP_top]
  have I2 := I1.setM1 s.cur.ahead s.many s.looks .non
  unfold doAct at kk
  rw [ea] at kk
  cases hb : s.below with
  | nil =>
    have efas : fas = [] := by
      have q := Paired.len I.bl
      rw [hb] at q
      exact List.eq_nil_of_length_eq_zero q
    subst efas
    have hn := I2.hfrs
    have kk : ReachF K G c Q (s.end_ (.tuple [.str "back", .int (s.num x)])) := by
      have kk : ReachF K G c Q (match s.below with
        | [] => s.end_ (.tuple [.str "back", .int (s.num x)])
        | f :: fs => .go { s with top := s.cur.ahead, below := fs, cur := { f with nums := putA f.nums (match rowAt cs (f.at_ - 1) with | some ⟨.call y _ _, _, _, _⟩ => y | _ => "") (s.num x) } }) := kk
      rw [hb] at kk
      exact kk
    dsimp only
    refine u_if ?_
    refine u_test ?_
    refine t_eqNil (ds := []) true rfl (pv_fld (pv_var rfl) I2.hm P.cM P.mFrames mF_frs) (.lst (sq_of hn) .nil) (by decide) fun H3 e3 => ⟨_, rfl, u_true ?_⟩
    have I3 := I2.grow e3
    refine u_fld (t_tup (pa_cons pv_c (pa_cons (pv_var rfl) pa_nil)) (by show 2 ≤ 100000; decide) fun t ht => ?_)
    have I4 := I3.tup (o := .tup [.str "back", .int (s.num x)]) ht
    refine pv_var rfl _ ⟨c.m, _, c.dx, _, rfl, I4.hm, P.cM, P.mEnd, mF_len, ?_⟩
    have I5 := I4.setM1 s.cur.ahead s.many s.looks (.ref t)
    refine kk (upd G t (.tup [.str "back", .int (s.num x)])) _ (Ex.new (fresh_back I3.ex ht)) ⟨I5.ex, s.cur.ahead, t, I5.hm, .tup (st_of upd_same) (.cons (.str _) (.cons (.int _) .nil)), I5.htold⟩
  | cons f fs =>
    obtain ⟨fa1, fas1, rfl⟩ : ∃ fa1 fas1, fas = fa1 :: fas1 := by
      have q := Paired.len I.bl
      rw [hb] at q
      cases fas with
      | nil => cases q
      | cons a b => exact ⟨a, b, rfl⟩
    obtain ⟨h1, h2, y, h, gs, l, k, o, hr⟩ := hbel f fs hb
    have kk : ReachF K G c Q (.go { s with top := s.cur.ahead, below := fs, cur := { f with nums := putA f.nums y (s.num x) } }) := by
      have kk : ReachF K G c Q (match s.below with
        | [] => s.end_ (.tuple [.str "back", .int (s.num x)])
        | f :: fs => .go { s with top := s.cur.ahead, below := fs, cur := { f with nums := putA f.nums (match rowAt cs (f.at_ - 1) with | some ⟨.call y _ _, _, _, _⟩ => y | _ => "") (s.num x) } }) := kk
      rw [hb] at kk
      have kk : ReachF K G c Q (.go { s with top := s.cur.ahead, below := fs, cur := { f with nums := putA f.nums (match rowAt cs (f.at_ - 1) with | some ⟨.call y _ _, _, _, _⟩ => y | _ => "") (s.num x) } }) := kk
      rw [hr] at kk
      exact kk
    have hn := I2.hfrs
    dsimp only
    refine u_if ?_
    refine u_test ?_
    refine u_op ?_
    refine pv_fld (pv_var rfl) I2.hm P.cM P.mFrames mF_frs _ ?_
    refine t_lst pa_nil (by decide) fun p hp => .inr (.inr ⟨c.frs, p, _, [], rfl, rfl, Ex.new hp _ _ hn, upd_same, by simp, ⟨_, rfl, u_false ?_⟩⟩)
    have I3 := I2.grow (Ex.new (o := .lst []) hp)
    have hb2 : ({ s with top := s.cur.ahead, many := s.many, looks := s.looks } : PM).below = f :: fs := hb
    have I4 := I3.pop hb2
    have hfr4 := I4.hfrs
    have hr2 : cs[(f.at_ - 1).toNat]? = some (.rw ⟨.call y h gs, l, k, o⟩) := by
      unfold rowAt at hr
      cases hq : cs[(f.at_ - 1).toNat]? with
      | none => rw [hq] at hr; cases hr
      | some z =>
        rw [hq] at hr
        cases z with
        | rw z => exact congrArg (fun z => some (CR.rw z)) (Option.some.inj hr)
        | st a b => cases hr
        | hd a => cases hr
    obtain ⟨rv, hat, hdp⟩ := C.at (i := f.at_ - 1) (by omega) hr2
    obtain ⟨row2, pl2, pa2, xs2, rfl, R2⟩ := ri_of hdp
    obtain ⟨w1, w2, w3, hpa2, b1, b2, b3⟩ := R2.p3 rfl
    cases dp_str b1
    have efl : ((fa1 :: fas1).map fun f => V.ref f.a).reverse = (fas1.map fun f => V.ref f.a).reverse ++ [.ref fa1.a] := by simp
    refine a_asg (pv_op (pv_fld (pv_var rfl) I4.hm P.cM P.mFrames mF_frs) (pv_neg pv_c) (pr_ixl (sq_of hfr4) (by show atI (((fa1 :: fas1).map fun f => V.ref f.a).reverse) (-1) = some (.ref fa1.a); rw [efl]; exact atI_last _ _))) ?_
    refine a_asg (pv_op (pv_fld (pv_var rfl) I4.hm P.cM P.mCode mF_code) (pv_op (pv_fld (pv_var rfl) I4.ha P.cF P.fAt fF_at) pv_c pr_sub) (pr_ixl (ex_l I4.ex C.h) hat)) ?_
    refine a_put (pv_var rfl) (pv_fld (pv_var rfl) I4.ha P.cF P.fNums fF_nums) (pv_op (R2.at3 I4.ex (pv_var rfl)) pv_c (pr_ixt (ex_t I4.ex hpa2) rfl)) (dput_n I4 h2 y _) ?_
    exact kk G _ fa1 fas1 (Ex.refl G) (I4.setN y (s.num x))
end
end B72


set_option Elab.async false
set_option linter.all false
set_option maxRecDepth 100000
set_option maxHeartbeats 4000000
/-! B8: what holds of a machine goes on holding. -/
namespace B72
open PySem L2 Evl R72
def fwhys : List Str := ["great", "nought", "size", "place", "check", "deep", "steps"]
def EOk (cs : List CR) (W : Int) (e : PyData) : Prop := (∃ y r, y ∈ fwhys ∧ CR.rw r ∈ cs ∧ e = .tuple [.str "fault", .str y, placeD r.lab]) ∨ ∃ v, -W ≤ v ∧ v ≤ W ∧ e = .tuple [.str "back", .int v]
structure FinOk (cs : List CR) (W most : Int) (f : Fin) : Prop where
  e : EOk cs W f.e
  tl : (f.told.length : Int) ≤ 1000
  tv : ∀ v ∈ f.told, -W ≤ v ∧ v ≤ W
  many : 0 ≤ f.many ∧ f.many ≤ most
  looks : 0 ≤ f.looks ∧ f.looks ≤ most
theorem fdiv_in {a b W : Int} (ha : -W ≤ a ∧ a ≤ W) : -W ≤ a.fdiv b ∧ a.fdiv b ≤ W := by
  have := Int.natAbs_fdiv_le_natAbs a b
  omega
theorem fmod_in {a b W : Int} (hb : -W ≤ b ∧ b ≤ W) (h0 : b ≠ 0) : -W ≤ a.fmod b ∧ a.fmod b ≤ W := by
  rw [Int.fmod_eq_emod]
  have h1 := Int.emod_nonneg a h0
  have h2 := Int.emod_lt a h0
  split <;> omega
section
variable {cs : List CR} {ty : Int → Option Hd} {W most : Int} {hd : Hd} {f : Fr} {s : PM} {r : Row}
theorem getA_in {W : Int} {es : List (Str × Int)} (hn : ∀ e ∈ es, -W ≤ e.2 ∧ e.2 ≤ W) (hW : 0 ≤ W) (x : Str) : -W ≤ (getA es x).getD 0 ∧ (getA es x).getD 0 ≤ W := by
  cases h : getA es x with
  | none => exact ⟨by show -W ≤ 0; omega, hW⟩
  | some v => exact hn _ (mem_get h)
theorem getM_in {W : Int} {es : List (Int × Int)} (hn : ∀ e ∈ es, -W ≤ e.2 ∧ e.2 ≤ W) (hW : 0 ≤ W) (x : Int) : -W ≤ (getA es x).getD 0 ∧ (getA es x).getD 0 ≤ W := by
  cases h : getA es x with
  | none => exact ⟨by show -W ≤ 0; omega, hW⟩
  | some v => exact hn _ (mem_get h)
theorem FrOk.put (F : FrOk cs ty W hd f) {x : Str} {v : Int} (hx : x ∈ hd.numbers) (hv : -W ≤ v ∧ v ≤ W) : FrOk cs ty W hd { f with nums := putA f.nums x v } :=
  ⟨fun y hy => mem_keys_put (F.nk y hy), F.lk, fun e he => (mem_put he).elim (fun z => by rw [z]; exact hv) (F.nv e), F.lv, by show (putA f.nums x v).length ≤ 20; rw [len_put, if_pos (F.nk x hx)]; exact F.nl, F.ll⟩
theorem FrOk.putL (F : FrOk cs ty W hd f) {x : Str} {v : Int × Int} (hx : x ∈ hd.rows) (hv : 0 ≤ v.2 ∧ v.2 ≤ W) : FrOk cs ty W hd { f with lain := putA f.lain x v } :=
  ⟨F.nk, fun y hy => mem_keys_put (F.lk y hy), F.nv, fun e he => (mem_put he).elim (fun z => by rw [z]; exact hv) (F.lv e), F.nl, by show (putA f.lain x v).length ≤ 20; rw [len_put, if_pos (F.lk x hx)]; exact F.ll⟩
theorem FrOk.at (F : FrOk cs ty W hd f) (j : Int) : FrOk cs ty W hd { f with at_ := j } := ⟨F.nk, F.lk, F.nv, F.lv, F.nl, F.ll⟩
theorem laidM_vals {W : Int} : ∀ (vs : List Int) (m : List (Int × Int)) (t : Int), (∀ e ∈ m, -W ≤ e.2 ∧ e.2 ≤ W) → (∀ v ∈ vs, -W ≤ v ∧ v ≤ W) → ∀ e ∈ laidM m t vs, -W ≤ e.2 ∧ e.2 ≤ W
  | [], m, t, hm, _ => hm
  | v :: vs, m, t, hm, hv => laidM_vals vs (putA m t v) (t + 1) (fun e he => (mem_put he).elim (fun z => by rw [z]; exact hv v (by simp)) (hm e)) (fun x hx => hv x (List.mem_cons_of_mem _ hx))
/-- the state but where it stands: what a step has begun with -/
structure MidOk (cs : List CR) (ty : Int → Option Hd) (W most : Int) (hd : Hd) (s : PM) : Prop where
  cur : FrOk cs ty W hd s.cur
  bel : ∀ f ∈ s.below, Waits cs ty W f
  blen : s.below.length ≤ 20
  many : 1 ≤ s.many ∧ s.many ≤ most ∧ most ≤ 1000
  ml : (s.mem.length : Int) ≤ 1000 * (s.many - 1)
  mv : ∀ e ∈ s.mem, -W ≤ e.2 ∧ e.2 ≤ W
  tl : (s.told.length : Int) ≤ s.many - 1
  tv : ∀ v ∈ s.told, -W ≤ v ∧ v ≤ W
  ll : s.left.length ≤ 1000
  lk : 0 ≤ s.looks ∧ s.looks ≤ s.many - 1
def OutOk (cs : List CR) (ty : Int → Option Hd) (W most many : Int) : Out → Prop
  | .go s => PmOk cs ty W most s ∧ s.many = many
  | .fin f => FinOk cs W most f
theorem MidOk.pm (M : MidOk cs ty W most hd s) (hg : Goes cs ty hd s.cur.at_) : PmOk cs ty W most s :=
  ⟨⟨hd, M.cur, hg⟩, M.bel, M.blen, ⟨by have := M.many; omega, M.many.2⟩, by have := M.ml; omega, M.mv, by have := M.tl; omega, M.tv, M.ll, by have := M.lk; omega⟩
theorem MidOk.setN (M : MidOk cs ty W most hd s) (hg : Goes cs ty hd s.cur.at_) {x : Str} {v : Int} (hx : x ∈ hd.numbers) (hv : -W ≤ v ∧ v ≤ W) : OutOk cs ty W most s.many (.go (s.setN x v)) :=
  ⟨⟨⟨hd, M.cur.put hx hv, hg⟩, M.bel, M.blen, ⟨by have := M.many; show 0 ≤ s.many; omega, M.many.2⟩, by have := M.ml; show (s.mem.length : Int) ≤ 1000 * s.many; omega, M.mv, by have := M.tl; show (s.told.length : Int) ≤ s.many; omega, M.tv, M.ll, by have := M.lk; show 0 ≤ s.looks ∧ s.looks ≤ s.many; omega⟩, rfl⟩
theorem MidOk.end_ (M : MidOk cs ty W most hd s) {e : PyData} (he : EOk cs W e) : OutOk cs ty W most s.many (s.end_ e) :=
  ⟨he, by have := M.tl; have := M.many; show (s.told.length : Int) ≤ 1000; omega, M.tv, by have := M.many; show 0 ≤ s.many ∧ s.many ≤ most; omega, by have := M.lk; have := M.many; show 0 ≤ s.looks ∧ s.looks ≤ most; omega⟩
theorem why_in {k y : Str} (h : getA whys k = some y) : y ∈ fwhys := by
  have q := mem_get h
  have q2 : ∀ e ∈ whys, e.2 ∈ fwhys := by decide
  exact q2 _ q
/-- looked at, then on: the measures have one look more -/
theorem look_ok (M : MidOk cs ty W most hd s) (hr : CR.rw r ∈ cs) (hw : r.look = true → ∃ y, getA whys r.act.kind = some y) {wrong : Bool} {k : PM → Out}
    (hk : ∀ s1, OneOf s s1 → (s1.looks : Int) ≤ s.many ∧ 0 ≤ s1.looks → (r.look = true → wrong = false) → OutOk cs ty W most s.many (k s1)) : OutOk cs ty W most s.many (s.look r wrong k) := by
  have hl := M.lk
  unfold PM.look
  by_cases h : r.look = true
  · rw [if_pos h]
    by_cases h2 : wrong = true
    · rw [if_pos h2]
      obtain ⟨y, hy⟩ := hw h
      have ew : whyOf r.act.kind = y := by unfold whyOf; rw [hy]; rfl
      rw [ew]
      exact ⟨.inl ⟨y, r, why_in hy, hr, rfl⟩, by have := M.tl; have := M.many; show (s.told.length : Int) ≤ 1000; omega, M.tv, by have := M.many; show 0 ≤ s.many ∧ s.many ≤ most; omega, by have := M.many; show 0 ≤ s.looks + 1 ∧ s.looks + 1 ≤ most; omega⟩
    · rw [if_neg h2]
      exact hk _ (.inr rfl) ⟨by show s.looks + 1 ≤ s.many; omega, by show 0 ≤ s.looks + 1; omega⟩ fun _ => by simpa using h2
  · rw [if_neg h]
    exact hk s (.inl rfl) ⟨by omega, hl.1⟩ fun z => absurd z h
/-- a state that differs from s in its looks alone -/
theorem one_pm {s1 : PM} (M : MidOk cs ty W most hd s) (o : OneOf s s1) (hl : (s1.looks : Int) ≤ s.many ∧ 0 ≤ s1.looks) {nums : List (Str × Int)} {mem : List (Int × Int)} {lain : List (Str × (Int × Int))} {top : Int} (hg : Goes cs ty hd s.cur.at_)
    (hF : FrOk cs ty W hd { s.cur with nums := nums, lain := lain }) (hm : (mem.length : Int) ≤ 1000 * s.many) (hmv : ∀ e ∈ mem, -W ≤ e.2 ∧ e.2 ≤ W) :
    OutOk cs ty W most s.many (.go { s1 with mem := mem, top := top, cur := { s1.cur with nums := nums, lain := lain } }) := by
  have hq := o.cur
  refine ⟨⟨⟨hd, ?_, ?_⟩, ?_, ?_, ?_, (by show (mem.length : Int) ≤ 1000 * s1.many; rw [hq.2.2.2.2.2.2]; exact hm), hmv, ?_, ?_, ?_, ?_⟩, ?_⟩
  · show FrOk cs ty W hd { s1.cur with nums := nums, lain := lain }
    rw [hq.1]; exact hF
  · show Goes cs ty hd s1.cur.at_
    rw [hq.1]; exact hg
  · show ∀ f ∈ s1.below, _
    rw [hq.2.2.2.2.1]; exact M.bel
  · show s1.below.length ≤ 20
    rw [hq.2.2.2.2.1]; exact M.blen
  · show 0 ≤ s1.many ∧ s1.many ≤ most ∧ most ≤ 1000
    rw [hq.2.2.2.2.2.2]; have := M.many; omega
  · show (s1.told.length : Int) ≤ s1.many
    rw [hq.2.2.2.2.2.2, hq.2.2.2.1]; have := M.tl; omega
  · show ∀ v ∈ s1.told, _
    rw [hq.2.2.2.1]; exact M.tv
  · show s1.left.length ≤ 1000
    rw [hq.2.2.2.2.2.1]; exact M.ll
  · show 0 ≤ s1.looks ∧ s1.looks ≤ s1.many
    rw [hq.2.2.2.2.2.2]; omega
  · show s1.many = s.many
    exact hq.2.2.2.2.2.2
theorem frame0_ok (hl : hd.params.length ≤ 7 ∧ hd.numbers.length ≤ 7 ∧ hd.rows.length ≤ 7) (hW : 0 ≤ W) (top : Int) : FrOk cs ty W hd (frame0 hd top) ∧ (frame0 hd top).nums.length ≤ 7 ∧ (frame0 hd top).lain.length ≤ 7 := by
  have a := foldl_len (0 : Int) hd.numbers []
  have b := foldl_len ((0, 0) : Int × Int) hd.rows []
  have c0 : ([] : List (Str × Int)).length = 0 := rfl
  have c1 : ([] : List (Str × (Int × Int))).length = 0 := rfl
  have a1 : (frame0 hd top).nums.length ≤ 7 := by show (hd.numbers.foldl (fun acc x => putA acc x 0) []).length ≤ 7; omega
  have b1 : (frame0 hd top).lain.length ≤ 7 := by show (hd.rows.foldl (fun acc x => putA acc x ((0, 0) : Int × Int)) []).length ≤ 7; omega
  refine ⟨⟨fun x hx => foldl_keys 0 x hd.numbers [] (.inr hx), fun x hx => foldl_keys (0, 0) x hd.rows [] (.inr hx), fun e he => ?_, fun e he => ?_, by omega, by omega⟩, a1, b1⟩
  · rcases foldl_vals (0 : Int) hd.numbers [] he with h | h
    · rw [h]; omega
    · cases h
  · rcases foldl_vals ((0, 0) : Int × Int) hd.rows [] he with h | h
    · rw [h]; show 0 ≤ (0 : Int) ∧ (0 : Int) ≤ W; omega
    · cases h
/-- the new frame while it is given its parts -/
structure GvOk (W : Int) (hd : Hd) (n : Nat) (s0 : PM) (a : PM × Fr) : Prop where
  nk : ∀ x ∈ hd.numbers, x ∈ keysA a.2.nums
  lk : ∀ x ∈ hd.rows, x ∈ keysA a.2.lain
  nv : ∀ e ∈ a.2.nums, -W ≤ e.2 ∧ e.2 ≤ W
  lv : ∀ e ∈ a.2.lain, 0 ≤ e.2.2 ∧ e.2.2 ≤ W
  mv : ∀ e ∈ a.1.mem, -W ≤ e.2 ∧ e.2 ≤ W
  at_ : a.2.at_ = hd.first
  same : a.1.below = s0.below ∧ a.1.told = s0.told ∧ a.1.left = s0.left ∧ a.1.many = s0.many ∧ a.1.looks = s0.looks
theorem give1_ok {cur : Fr} {a : PM × Fr} {q : Str × Str} {s0 : PM} (hW : 0 ≤ W) (hn : ∀ e ∈ cur.nums, -W ≤ e.2 ∧ e.2 ≤ W) (hlv : ∀ e ∈ cur.lain, 0 ≤ e.2.2 ∧ e.2.2 ≤ W) (g : GvOk W hd 0 s0 a) : GvOk W hd 0 s0 (give1 cur a q) := by
  unfold give1
  cases h : getA cur.lain q.2 with
  | some l =>
    have b := hlv _ (mem_get h)
    refine ⟨g.nk, fun x hx => mem_keys_put (g.lk x hx), g.nv, fun e he => (mem_put he).elim (fun z => by rw [z]; exact b) (g.lv e), ?_, g.at_, g.same⟩
    refine laidM_vals _ _ _ g.mv fun v hv => ?_
    unfold PM.cells at hv
    obtain ⟨i, _, e⟩ := List.mem_map.mp hv
    rw [← e]
    exact getM_in g.mv hW _
  | none => exact ⟨fun x hx => mem_keys_put (g.nk x hx), g.lk, fun e he => (mem_put he).elim (fun z => by rw [z]; exact getA_in hn hW _) (g.nv e), g.lv, g.mv, g.at_, g.same⟩
theorem give_ok {cur : Fr} {s0 : PM} (hW : 0 ≤ W) (hn : ∀ e ∈ cur.nums, -W ≤ e.2 ∧ e.2 ≤ W) (hlv : ∀ e ∈ cur.lain, 0 ≤ e.2.2 ∧ e.2.2 ≤ W) : ∀ (l : List (Str × Str)) (a : PM × Fr), GvOk W hd 0 s0 a → GvOk W hd 0 s0 (l.foldl (give1 cur) a)
  | [], a, g => g
  | q :: l, a, g => give_ok hW hn hlv l _ (give1_ok hW hn hlv g)
end
end B72


set_option Elab.async false
set_option linter.all false
set_option maxRecDepth 100000
set_option maxHeartbeats 4000000
/-! B9: a step, as it is and as it is told. -/
namespace B72
open PySem L2 Evl R72
section
variable {cs : List CR} {ty : Int → Option Hd} {W most : Int} {hd : Hd} {f : Fr} {s : PM} {r : Row}
theorem side_in (hW : 0 ≤ W) (F : FrOk cs ty W hd s.cur) {z : Side} (hz : SideOk W hd z) : -W ≤ s.side z ∧ s.side z ≤ W := by
  cases z with
  | inl x => exact getA_in F.nv hW x
  | inr i => exact hz
theorem sideIn (F : FrOk cs ty W hd s.cur) {z : Side} (hz : SideOk W hd z) : SideIn s z := by
  cases z with
  | inl x => exact F.nk x hz
  | inr i => exact True.intro
theorem row_in (hW : 0 ≤ W) (F : FrOk cs ty W hd s.cur) (a : Str) : 0 ≤ (s.row a).2 ∧ (s.row a).2 ≤ W := by
  unfold PM.row
  cases h : getA s.cur.lain a with
  | none => exact ⟨by show (0 : Int) ≤ 0; omega, hW⟩
  | some v => exact F.lv _ (mem_get h)
theorem doAct_ok (CO : CodeOk cs ty W) (M : MidOk cs ty W most hd s) (hr : CR.rw r ∈ cs) (hw : r.look = true → ∃ y, getA whys r.act.kind = some y) (RO : RowOk cs ty W hd r) (hat : s.cur.at_ = r.on) (hon : 1 ≤ r.on) (hrow : rowAt cs (r.on - 1) = some r) :
    OutOk cs ty W most s.many (doAct cs W s r) := by
  have hW : 0 ≤ W := by have := CO.w; omega
  have hW1 := CO.w
  have hml := M.ml
  have hmy := M.many
  unfold doAct
  unfold RowOk at RO
  have en : ∀ {s1 : PM}, OneOf s s1 → ∀ x, s1.num x = s.num x := fun o x => by rcases o with o | o <;> subst o <;> rfl
  cases ea : r.act with
  | set x n =>
    rw [ea] at RO
    obtain ⟨h1, h2, h3, h4⟩ := RO
    exact M.setN (by rw [hat]; exact h4) h1 ⟨h2, h3⟩
  | sum k x y z =>
    rw [ea] at RO
    obtain ⟨h1, h2, h3, h4, h5⟩ := RO
    refine look_ok M hr hw fun s1 o hl _ => ?_
    have e1 := Int.fmod_nonneg_of_pos (sumF k (s.num y) (s.side z) + W) (b := 2 * W + 1) (by omega)
    have e2 := Int.fmod_lt_of_pos (sumF k (s.num y) (s.side z) + W) (b := 2 * W + 1) (by omega)
    have q := one_pm (s1 := s1) M o hl (nums := putA s1.cur.nums x ((sumF k (s.num y) (s.side z) + W).fmod (2 * W + 1) - W)) (mem := s1.mem) (lain := s1.cur.lain) (top := s1.top) (by rw [hat]; exact h5)
      (by rw [o.cur.1]; exact M.cur.put h2 (by omega)) (by rw [o.cur.2.1]; omega) (by rw [o.cur.2.1]; exact M.mv)
    exact q
  | over k x y z =>
    rw [ea] at RO
    obtain ⟨h1, h2, h3, h4, h5⟩ := RO
    refine look_ok M hr hw fun s1 o hl _ => ?_
    rw [en o, en o]
    have b1 := getA_in M.cur.nv hW y
    have b2 := getA_in M.cur.nv hW z
    have b1 : -W ≤ s.num y ∧ s.num y ≤ W := b1
    have b2 : -W ≤ s.num z ∧ s.num z ≤ W := b2
    have hv : ∀ v, v = (if s.num z = 0 then 0 else if k = "over" then (s.num y).fdiv (s.num z) else (s.num y).fmod (s.num z)) → -W ≤ v ∧ v ≤ W := by
      intro v e
      subst e
      split
      · omega
      · split
        · exact fdiv_in b1
        · exact fmod_in b2 (by assumption)
    exact one_pm (s1 := s1) M o hl (nums := putA s1.cur.nums x _) (mem := s1.mem) (lain := s1.cur.lain) (top := s1.top) (by rw [hat]; exact h5)
      (by rw [o.cur.1]; exact M.cur.put h2 (hv _ rfl)) (by rw [o.cur.2.1]; omega) (by rw [o.cur.2.1]; exact M.mv)
  | mid x y z =>
    rw [ea] at RO
    obtain ⟨h1, h2, h3, h4⟩ := RO
    have b1 : -W ≤ s.num y ∧ s.num y ≤ W := getA_in M.cur.nv hW y
    have b2 : -W ≤ s.num z ∧ s.num z ≤ W := getA_in M.cur.nv hW z
    refine M.setN (by rw [hat]; exact h4) h1 ?_
    rw [Int.fdiv_eq_ediv_of_nonneg _ (by decide)]
    omega
  | row a x =>
    rw [ea] at RO
    obtain ⟨h1, h2, h3⟩ := RO
    refine look_ok M hr hw fun s1 o hl _ => ?_
    have b1 : -W ≤ s.num x ∧ s.num x ≤ W := getA_in M.cur.nv hW x
    rw [en o]
    have c0 := laidM_len s1.mem s1.top (List.replicate (s.num x).toNat 0)
    rw [List.length_replicate, o.cur.2.1] at c0
    have q := one_pm (s1 := s1) M o hl (nums := s1.cur.nums) (mem := laidM s1.mem s1.top (List.replicate (s.num x).toNat 0)) (lain := putA s1.cur.lain a (s1.top, ((s.num x).toNat : Int))) (top := s1.top + ((List.replicate (s.num x).toNat (0 : Int)).length : Int)) (by rw [hat]; exact h3)
      (by rw [o.cur.1]; exact M.cur.putL h1 (by show 0 ≤ ((s.num x).toNat : Int) ∧ ((s.num x).toNat : Int) ≤ W; omega)) (by rw [o.cur.2.1]; omega)
      (by
        rw [o.cur.2.1]
        refine laidM_vals _ _ _ M.mv fun v hv => ?_
        rw [(List.mem_replicate.mp hv).2]
        omega)
    exact q
  | get x a p =>
    rw [ea] at RO
    obtain ⟨h1, h2, h3, h4⟩ := RO
    refine look_ok M hr hw fun s1 o hl _ => ?_
    rw [o.cur.2.1]
    exact one_pm (s1 := s1) M o hl (nums := putA s1.cur.nums x _) (mem := s1.mem) (lain := s1.cur.lain) (top := s1.top) (by rw [hat]; exact h4)
      (by rw [o.cur.1]; exact M.cur.put h1 (getM_in M.mv hW _)) (by rw [o.cur.2.1]; omega) (by rw [o.cur.2.1]; exact M.mv)
  | put a p x =>
    rw [ea] at RO
    obtain ⟨h1, h2, h3, h4⟩ := RO
    refine look_ok M hr hw fun s1 o hl _ => ?_
    rw [en o, o.cur.2.1]
    have q := one_pm (s1 := s1) M o hl (nums := s1.cur.nums) (mem := putA s.mem ((s.row a).1 + s.num p) (s.num x)) (lain := s1.cur.lain) (top := s1.top) (by rw [hat]; exact h4)
      (by rw [o.cur.1]; exact M.cur) (by have := len_put_le s.mem ((s.row a).1 + s.num p) (s.num x); omega) (fun e he => (mem_put he).elim (fun z => by rw [z]; exact getA_in M.cur.nv hW x) (M.mv e))
    exact q
  | len x a =>
    rw [ea] at RO
    obtain ⟨h1, h2, h3⟩ := RO
    have := row_in hW M.cur a
    exact M.setN (by rw [hat]; exact h3) h1 (by omega)
  | ask x l g =>
    rw [ea] at RO
    obtain ⟨h1, h2, h3, h4, h5⟩ := RO
    have M2 : MidOk cs ty W most hd { s with left := s.left.tail } := ⟨M.cur, M.bel, M.blen, M.many, M.ml, M.mv, M.tl, M.tv, by show s.left.tail.length ≤ 1000; rw [List.length_tail]; have := M.ll; omega, M.lk⟩
    have e1 := Int.fmod_nonneg_of_pos ((s.left.head?.getD 0) - l) (b := g - l + 1) (by omega)
    have e2 := Int.fmod_lt_of_pos ((s.left.head?.getD 0) - l) (b := g - l + 1) (by omega)
    exact M2.setN (by show Goes cs ty hd s.cur.at_; rw [hat]; exact h5) h1 (by omega)
  | tell x =>
    rw [ea] at RO
    obtain ⟨h1, h2⟩ := RO
    have b1 : -W ≤ s.num x ∧ s.num x ≤ W := getA_in M.cur.nv hW x
    refine ⟨⟨⟨hd, M.cur, by show Goes cs ty hd s.cur.at_; rw [hat]; exact h2⟩, M.bel, M.blen, ⟨by show 0 ≤ s.many; omega, M.many.2⟩, by show (s.mem.length : Int) ≤ 1000 * s.many; omega, M.mv, ?_, ?_, M.ll, by have := M.lk; show 0 ≤ s.looks ∧ s.looks ≤ s.many; omega⟩, rfl⟩
    · show ((s.told ++ [s.num x]).length : Int) ≤ s.many
      have := M.tl
      rw [List.length_append]
      simp only [List.length_singleton]
      omega
    · intro v hv
      rcases List.mem_append.mp hv with z | z
      · exact M.tv v z
      · rw [List.mem_singleton.mp z]; exact b1
  | chk a g b =>
    rw [ea] at RO
    obtain ⟨h1, h2, h3⟩ := RO
    refine look_ok M hr hw fun s1 o hl _ => ?_
    exact one_pm (s1 := s1) M o hl (nums := s1.cur.nums) (mem := s1.mem) (lain := s1.cur.lain) (top := s1.top) (by rw [hat]; exact h3) (by rw [o.cur.1]; exact M.cur) (by rw [o.cur.2.1]; omega) (by rw [o.cur.2.1]; exact M.mv)
  | iff a g b j =>
    rw [ea] at RO
    obtain ⟨h1, h2, h3, h4⟩ := RO
    show OutOk cs ty W most s.many (.go (if isSo (s.side a) g (s.side b) = true then { s with cur := { s.cur with at_ := j } } else s))
    split
    · have M2 : MidOk cs ty W most hd { s with cur := { s.cur with at_ := j } } := ⟨M.cur.at j, M.bel, M.blen, M.many, M.ml, M.mv, M.tl, M.tv, M.ll, M.lk⟩
      exact ⟨M2.pm h4, rfl⟩
    · exact ⟨M.pm (by rw [hat]; exact h3), rfl⟩
  | go j =>
    rw [ea] at RO
    have M2 : MidOk cs ty W most hd { s with cur := { s.cur with at_ := j } } := ⟨M.cur.at j, M.bel, M.blen, M.many, M.ml, M.mv, M.tl, M.tv, M.ll, M.lk⟩
    exact ⟨M2.pm RO, rfl⟩
  | call x h gs =>
    rw [ea] at RO
    obtain ⟨h1, h2, h3, h4, hd', h5, h6, h7⟩ := RO
    show OutOk cs ty W most s.many (if 20 < ((s.below.length + 1 : Nat) : Int) then s.end_ (.tuple [.str "fault", .str "deep", placeD r.lab]) else
      .go { (give s.cur ((headAt cs h).params.zip gs) s (frame0 (headAt cs h) s.top)).1 with below := s.cur :: s.below, cur := (give s.cur ((headAt cs h).params.zip gs) s (frame0 (headAt cs h) s.top)).2 })
    split
    · exact M.end_ (.inl ⟨_, r, by decide, hr, rfl⟩)
    · have eh : headAt cs h = hd' := by unfold headAt; rw [h5]
      rw [eh]
      have hln := CO.heads _ _ h5
      obtain ⟨F0, n0, l0⟩ := frame0_ok (cs := cs) (ty := ty) (W := W) hln hW s.top
      have hlv31 : ∀ e ∈ s.cur.lain, 0 ≤ e.2.2 ∧ e.2.2 ≤ 31 := fun e he => by have := M.cur.lv e he; omega
      have gl := give_len (cur := s.cur) hlv31 (hd'.params.zip gs) s (frame0 hd' s.top)
      have go := give_ok (hd := hd') (s0 := s) hW M.cur.nv M.cur.lv (hd'.params.zip gs) (s, frame0 hd' s.top) ⟨F0.nk, F0.lk, F0.nv, F0.lv, M.mv, rfl, rfl, rfl, rfl, rfl, rfl⟩
      have hzl : (hd'.params.zip gs).length ≤ 7 := by rw [List.length_zip]; omega
      have go : GvOk W hd' 0 s (give s.cur (hd'.params.zip gs) s (frame0 hd' s.top)) := go
      generalize give s.cur (hd'.params.zip gs) s (frame0 hd' s.top) = a at gl go
      obtain ⟨s1, s2, s3, s4, s5⟩ := go.same
      refine ⟨⟨⟨hd', ⟨go.nk, go.lk, go.nv, go.lv, by show a.2.nums.length ≤ 20; omega, by show a.2.lain.length ≤ 20; omega⟩, by show Goes cs ty hd' a.2.at_; rw [go.at_]; exact h7⟩, ?_, ?_, ?_, ?_, go.mv, ?_, ?_, ?_, ?_⟩, s4⟩
      · intro f hf
        rcases List.mem_cons.mp hf with z | z
        · subst z
          refine ⟨hd, x, h, gs, r.lab, r.look, r.on, M.cur, by rw [hat]; exact h2, by omega, ?_, h1⟩
          rw [hat, hrow, ← ea]
        · exact M.bel f z
      · show s.below.length + 1 ≤ 20
        omega
      · show 0 ≤ a.1.many ∧ a.1.many ≤ most ∧ most ≤ 1000
        omega
      · show (a.1.mem.length : Int) ≤ 1000 * a.1.many
        omega
      · show (a.1.told.length : Int) ≤ a.1.many
        rw [s2]; have := M.tl; omega
      · show ∀ v ∈ a.1.told, _
        rw [s2]; exact M.tv
      · show a.1.left.length ≤ 1000
        rw [s3]; exact M.ll
      · show 0 ≤ a.1.looks ∧ a.1.looks ≤ a.1.many
        have := M.lk; omega
  | back x =>
    rw [ea] at RO
    have b1 : -W ≤ s.num x ∧ s.num x ≤ W := getA_in M.cur.nv hW x
    show OutOk cs ty W most s.many (match s.below with
      | [] => s.end_ (.tuple [.str "back", .int (s.num x)])
      | f :: fs => .go { s with top := s.cur.ahead, below := fs, cur := { f with nums := putA f.nums (match rowAt cs (f.at_ - 1) with | some ⟨.call y _ _, _, _, _⟩ => y | _ => "") (s.num x) } })
    cases hb : s.below with
    | nil => exact M.end_ (.inr ⟨_, b1.1, b1.2, rfl⟩)
    | cons f fs =>
      obtain ⟨hd2, y, h, gs, l, k, o, F, g1, g2, g3, g4⟩ := M.bel f (by rw [hb]; simp)
      show OutOk cs ty W most s.many (.go { s with top := s.cur.ahead, below := fs, cur := { f with nums := putA f.nums (match rowAt cs (f.at_ - 1) with | some ⟨.call y _ _, _, _, _⟩ => y | _ => "") (s.num x) } })
      rw [g3]
      have hbl := M.blen
      rw [hb] at hbl
      refine ⟨⟨⟨hd2, F.put g4 b1, g1⟩, fun f' hf => M.bel f' (by rw [hb]; exact List.mem_cons_of_mem _ hf), by simp at hbl; show fs.length ≤ 20; omega, by show 0 ≤ s.many ∧ s.many ≤ most ∧ most ≤ 1000; omega, by show (s.mem.length : Int) ≤ 1000 * s.many; omega, M.mv, by have := M.tl; show (s.told.length : Int) ≤ s.many; omega, M.tv, M.ll, by have := M.lk; show 0 ≤ s.looks ∧ s.looks ≤ s.many; omega⟩, rfl⟩
/-- what stands where a machine stands -/
theorem at_row (CO : CodeOk cs ty W) (O : PmOk cs ty W most s) : ∃ r hd, cs[s.cur.at_.toNat]? = some (.rw r) ∧ 0 ≤ s.cur.at_ ∧ rowAt cs s.cur.at_ = some r ∧ FrOk cs ty W hd s.cur ∧ RowOk cs ty W hd r ∧ r.on = s.cur.at_ + 1 ∧ (r.look = true → ∃ y, getA whys r.act.kind = some y) ∧ CR.rw r ∈ cs := by
  obtain ⟨hd, F, h0, ⟨r, hr⟩, ht⟩ := O.cur
  obtain ⟨h1, h2, hd2, h3, h4⟩ := CO.rows _ _ hr
  have e0 : ((s.cur.at_.toNat : Nat) : Int) = s.cur.at_ := by omega
  rw [e0] at h1 h3
  rw [ht] at h3
  cases h3
  exact ⟨r, hd, hr, h0, by unfold rowAt; rw [hr], F, h4, h1, h2, List.mem_of_getElem? hr⟩
theorem mid_of (O : PmOk cs ty W most s) (hm : s.many ≠ most) (F : FrOk cs ty W hd s.cur) (on : Int) : MidOk cs ty W most hd { s with many := s.many + 1, cur := { s.cur with at_ := on } } :=
  ⟨F.at on, O.bel, O.blen, by have := O.many; show 1 ≤ s.many + 1 ∧ s.many + 1 ≤ most ∧ most ≤ 1000; omega, by have := O.ml; show (s.mem.length : Int) ≤ 1000 * (s.many + 1 - 1); omega, O.mv, by have := O.tl; show (s.told.length : Int) ≤ s.many + 1 - 1; omega, O.tv, O.ll,
    by have := O.lk; show 0 ≤ s.looks ∧ s.looks ≤ s.many + 1 - 1; omega⟩
theorem step_ok (CO : CodeOk cs ty W) (O : PmOk cs ty W most s) : OutOk cs ty W most (s.many + 1) (step cs W most s) := by
  obtain ⟨r, hd, h1, h2, h3, F, RO, hon, hw, hm⟩ := at_row CO O
  unfold step
  rw [h3]
  show OutOk cs ty W most (s.many + 1) (if s.many = most then s.end_ (.tuple [.str "fault", .str "steps", placeD r.lab]) else doAct cs W { s with many := s.many + 1, cur := { s.cur with at_ := r.on } } r)
  split
  · have := O.many; have := O.tl; have := O.lk
    exact ⟨.inl ⟨_, r, by decide, hm, rfl⟩, by show (s.told.length : Int) ≤ 1000; omega, O.tv, by show 0 ≤ s.many ∧ s.many ≤ most; omega, by show 0 ≤ s.looks ∧ s.looks ≤ most; omega⟩
  · have e : r.on - 1 = s.cur.at_ := by omega
    exact doAct_ok CO (mid_of O (by assumption) F r.on) hm hw RO rfl (by omega) (by rw [e]; exact h3)
end
end B72


set_option Elab.async false
set_option linter.all false
set_option maxRecDepth 100000
set_option maxHeartbeats 400000
/-! B10: steps, runs. -/
namespace B72
open PySem L2 Evl R72
section
variable {K : PySem.W.Frag} {w : World} {G G' H H' : Hp} {c : MC} {fa fa' : FA} {fas : List FA} {s s' : PM} {row pl pa : Addr} {xs : List V} {r : Row} {Q : VK} {E : XK} {σ : L2.St} {D : Ends} {vals : List V} {cs : List CR} {ty : Int → Option Hd} {most : Int} {hd : Hd}
theorem ReachF.non {o : Out} (h : ReachF K G c Q o) : ReachF K G c (fun _ H' => Q .non H') o := by
  cases o <;> exact h
theorem ReachF.mono {o : Out} (h : ReachF K G c Q o) (e : Ex G G') : ReachF K G' c Q o := by
  cases o with
  | go s' => exact fun G2 H2 fa fas e2 I => h G2 H2 fa fas (e.trans e2) I
  | fin f => exact fun G2 H2 e2 d => h G2 H2 (e.trans e2) d
/-- the def that a row's word names does what the row asks -/
theorem do_act (P : PF K w) (I : MI K G H c fa fas s .non) (R : RI K G row pl pa xs r) (CO : CodeOk cs ty c.wide) (M : MidOk cs ty c.wide most hd s) (hw : r.look = true → ∃ y, getA whys r.act.kind = some y) (RO : RowOk cs ty c.wide hd r)
    (C : CI K G c.code vals cs) (hfl : c.fl = flOf fa fas) (kk : ReachF K G c Q (doAct cs c.wide s r)) (hm : (s.mem.length : Int) ≤ 1000000 - 1) :
    ∃ f sp, (r.act.kind, f) ∈ doings1 ++ doings2 ∧ Doing K w (He.ga K f) sp ∧ sp [.ref c.m, .ref fa.a, .ref row] H Q C8.E0 := by
  have hW : 0 ≤ c.wide := by have := CO.w; omega
  have hW1 := CO.w
  have F := M.cur
  have hnl : s.cur.nums.length < 100 := by have := F.nl; omega
  have hll : s.cur.lain.length < 100 := by have := F.ll; omega
  have hkv : fa.kv.length = s.cur.lain.length := Paired.len I.lr
  unfold RowOk at RO
  cases ea : r.act with
  | set x n =>
    rw [ea] at RO
    exact ⟨"on_set", sp_on_set K w, by simp [RA.kind, doings1, doings2], by simp [Doing], s_on_set P I R ea hnl (by have k := kk.reach hfl; unfold doAct at k; rw [ea] at k; exact k)⟩
  | sum k x y z =>
    rw [ea] at RO
    obtain ⟨h1, h2, h3, h4, h5⟩ := RO
    have b := side_in hW F h4
    refine ⟨"on_sum", sp_on_sum K w, ?_, by simp [Doing], s_on_sum P I R ea hnl hW1 F.nv (F.nk y h3) (sideIn F h4) (by omega) hw (kk.reach hfl)⟩
    have hk : k = "add" ∨ k = "plus" ∨ k = "minus" ∨ k = "times" := by simpa [sumKs] using h1
    rcases hk with h | h | h | h <;> subst h <;> simp [RA.kind, doings1, doings2]
  | over k x y z =>
    rw [ea] at RO
    obtain ⟨h1, h2, h3, h4, h5⟩ := RO
    refine ⟨"on_over", sp_on_over K w, ?_, by simp [Doing], s_on_over P I R ea hnl hW1 F.nv (F.nk y h3) (F.nk z h4) hw (kk.reach hfl)⟩
    rcases h1 with h | h <;> subst h <;> simp [RA.kind, doings1, doings2]
  | mid x y z =>
    rw [ea] at RO
    obtain ⟨h1, h2, h3, h4⟩ := RO
    exact ⟨"on_mid", sp_on_mid K w, by simp [RA.kind, doings1, doings2], by simp [Doing], s_on_mid P I R ea hnl (F.nk y h2) (F.nk z h3) (kk.reach hfl)⟩
  | row a x =>
    rw [ea] at RO
    obtain ⟨h1, h2, h3⟩ := RO
    have b1 : -c.wide ≤ s.num x ∧ s.num x ≤ c.wide := getA_in F.nv hW x
    exact ⟨"on_row", sp_on_row K w, by simp [RA.kind, doings1, doings2], by simp [Doing], s_on_row P I R hw ea hll (by omega) (F.nk x h2) (by omega) (kk.reach hfl) hkv⟩
  | get x a p =>
    rw [ea] at RO
    obtain ⟨h1, h2, h3, h4⟩ := RO
    exact ⟨"on_get", sp_on_get K w, by simp [RA.kind, doings1, doings2], by simp [Doing], s_on_get P I R hw ea hnl (F.lk a h2) (F.nk p h3) (kk.reach hfl)⟩
  | put a p x =>
    rw [ea] at RO
    obtain ⟨h1, h2, h3, h4⟩ := RO
    exact ⟨"on_put", sp_on_put K w, by simp [RA.kind, doings1, doings2], by simp [Doing], s_on_put P I R hw ea (by omega) (F.lk a h1) (F.nk p h2) (F.nk x h3) (kk.reach hfl)⟩
  | len x a =>
    rw [ea] at RO
    obtain ⟨h1, h2, h3⟩ := RO
    exact ⟨"on_length", sp_on_length K w, by simp [RA.kind, doings1, doings2], by simp [Doing], s_on_length P I R ea hnl (F.lk a h2) (kk.reach hfl)⟩
  | ask x l g =>
    rw [ea] at RO
    obtain ⟨h1, h2, h3, h4, h5⟩ := RO
    exact ⟨"on_ask", sp_on_ask K w, by simp [RA.kind, doings1, doings2], by simp [Doing], s_on_ask P I R ea hnl h3 (kk.reach hfl)⟩
  | tell x =>
    rw [ea] at RO
    obtain ⟨h1, h2⟩ := RO
    exact ⟨"on_tell", sp_on_tell K w, by simp [RA.kind, doings1, doings2], by simp [Doing], s_on_tell P I R ea (by have := M.tl; have := M.many; omega) (F.nk x h1) (kk.reach hfl)⟩
  | chk a g b =>
    rw [ea] at RO
    obtain ⟨h1, h2, h3⟩ := RO
    exact ⟨"on_check", sp_on_check K w, by simp [RA.kind, doings1, doings2], by simp [Doing], s_on_check P I R ea (sideIn F h1) (sideIn F h2) hw (kk.reach hfl)⟩
  | iff a g b j =>
    rw [ea] at RO
    obtain ⟨h1, h2, h3, h4⟩ := RO
    exact ⟨"on_if", sp_on_if K w, by simp [RA.kind, doings1, doings2], by simp [Doing], s_on_if P I R ea (sideIn F h1) (sideIn F h2) (kk.reach hfl)⟩
  | go j =>
    exact ⟨"on_go", sp_on_go K w, by simp [RA.kind, doings1, doings2], by simp [Doing], s_on_go P I R ea (kk.reach hfl)⟩
  | call x h gs =>
    rw [ea] at RO
    obtain ⟨h1, h2, h3, h4, hd', h5, h6, h7⟩ := RO
    exact ⟨"on_call", sp_on_call K w, by simp [RA.kind, doings1, doings2], by simp [Doing], s_on_call P I R ea C hfl h4 h5 h6 (CO.heads _ _ h5) (fun g hg => (h3 g hg).imp (F.nk g) (F.lk g)) (fun e he => by have := F.lv e he; omega) (by omega) kk⟩
  | back x =>
    rw [ea] at RO
    refine ⟨"on_back", sp_on_back K w, by simp [RA.kind, doings1, doings2], by simp [Doing], s_on_back P I R ea (F.nk x RO) C hfl (fun f fs hb => ?_) kk⟩
    obtain ⟨hd2, y, h, gs, l, k, o, F2, g1, g2, g3, g4⟩ := M.bel f (by rw [hb]; simp)
    exact ⟨g2, by have := F2.nl; omega, y, h, gs, l, k, o, g3⟩
theorem s_step (P : PF K w) (I : MI K G H c fa fas s .non) (CO : CodeOk cs ty c.wide) (O : PmOk cs ty c.wide c.most s) (C : CI K G c.code vals cs) (hfl : c.fl = flOf fa fas) (kk : ReachF K G c Q (step cs c.wide c.most s)) : sp_Machine_step K w [.ref c.m] H Q E := by
  refine ⟨rfl, ?_⟩
  unfold t_Machine_step
  obtain ⟨r, hd, h1, h2, h3, F, RO, hon, hw, hmem⟩ := at_row CO O
  obtain ⟨rv, hat, hdp⟩ := C.at h2 h1
  obtain ⟨row, pl, pa, xs, rfl, R⟩ := ri_of hdp
  have hfr := I.hfrs
  rw [hfl, flOf_cons] at hfr
  refine a_asg (pv_op (pv_fld (pv_var rfl) I.hm P.cM P.mFrames mF_frs) (pv_neg pv_c) (pr_ixl (sq_of hfr) (atI_last _ _))) ?_
  refine a_asg (pv_op (pv_fld (pv_var rfl) I.hm P.cM P.mCode mF_code) (pv_fld (pv_var rfl) I.ha P.cF P.fAt fF_at) (pr_ixl (ex_l I.ex C.h) hat)) ?_
  unfold step at kk
  rw [h3] at kk
  have kk : ReachF K G c Q (if s.many = c.most then s.end_ (.tuple [.str "fault", .str "steps", placeD r.lab]) else doAct cs c.wide { s with many := s.many + 1, cur := { s.cur with at_ := r.on } } r) := kk
  refine a_if (pt_test (pv_eqI (pv_fld (pv_var rfl) I.hm P.cM P.mMany mF_many) (pv_fld (pv_var rfl) I.hm P.cM P.mMost mF_most))) (fun hb => ?_) fun hb => ?_
  · have hb : s.many = c.most := of_decide_eq_true hb
    rw [if_pos hb] at kk
    refine u_fld (t_tup (pa_cons pv_c (pa_cons pv_c (pa_cons (R.at1 I.ex (pv_var rfl)) pa_nil))) (by show 3 ≤ 100000; decide) fun t ht => ?_)
    have I2 := I.tup (o := .tup [.str "fault", .str "steps", .ref pl]) ht
    have d := done3 I R "steps" ht s.many s.looks
    refine pv_var rfl _ ⟨c.m, _, c.dx, _, rfl, I2.hm, P.cM, P.mEnd, mF_len, ?_⟩
    exact kk _ _ (Ex.new (fresh_back I.ex ht)) d
  · have hb : ¬ s.many = c.most := of_decide_eq_false hb
    rw [if_neg hb] at kk
    refine a_aug1 (pv_var rfl) I.hm P.cM P.mMany mF_many mF_len ?_
    rw [mP_many]
    have I1 := I.setM1 s.top (s.many + 1) s.looks .non
    refine a_fld (R.at4 I1.ex (pv_var rfl)) (pv_var rfl) I1.ha P.cF P.fAt fF_len ?_
    rw [fP_at]
    have I2 := I1.setAt r.on
    have M := mid_of O hb F r.on
    have hm := M.ml
    have hm2 := M.many
    have hm : ((s.mem.length : Nat) : Int) ≤ 1000 * (s.many + 1 - 1) := hm
    have hm2 : 1 ≤ s.many + 1 ∧ s.many + 1 ≤ c.most ∧ c.most ≤ 1000 := hm2
    obtain ⟨f, sp, hf, hD, hs⟩ := do_act P I2 R CO M hw RO C hfl kk.non (by show (s.mem.length : Int) ≤ _; omega)
    refine a_asg (pv_ixd pv_c (R.at0 I2.ex (pv_var rfl)) (P.doing _ f (List.mem_append.mp hf))) ?_
    exact ⟨_, sp, hD, rfl, pa_cons (pv_var rfl) (pa_cons (pv_var rfl) (pa_cons (pv_var rfl) pa_nil)) _ hs⟩
/-! ### a machine made -/
theorem Held.news {M : List (Addr × HO)} (I : Held G M H) {x dx : Addr} {o : HO} (hx : H x = none) (hdx : H dx = none) (hne : dx ≠ x) : Held G (M ++ [(x, o)]) (upd (upd H dx (.own x)) x o) := by
  have hx1 : (upd H dx (.own x)) x = none := by rw [upd_ne (fun q => hne q.symm)]; exact hx
  exact (I.grow (Ex.new hdx)).new hx1
theorem putF_len (f : Str) (v : V) : ∀ fs : List (Str × V), (putF f v fs).length ≤ fs.length + 1
  | [] => Nat.le_refl _
  | (g, x) :: r => by
    have := putF_len f v r
    unfold putF
    split
    · exact Nat.le_succ _
    · simp only [List.length_cons]; omega
theorem a_fldH {M2 : List (Addr × HO)} {C a dx : Addr} {fs : List (Str × V)} {f : Str} {v : V} {tx ta : TE} {n : Nat} (I : Held G ((a, .ins C dx fs) :: M2) H) (c : Cls K C) (na : NoAttr K C f) (hl : fs.length ≤ n) (hn : n < 900) (hv : Pv tx σ H v) (ha : Pv ta σ H (.ref a))
    (k : ∀ H', Held G ((a, .ins C dx (putF f v fs)) :: M2) H' → (putF f v fs).length ≤ n + 1 → D.nx σ H') : sFld K ta tx f D σ H :=
  a_fld hv ha (I.cl (a, _) (List.mem_cons_self ..)) c na (by omega) (k _ (I.chg [] rfl) (by have := putF_len f v fs; omega))
theorem a_fldN {M2 : List (Addr × HO)} {C a dx : Addr} {fs : List (Str × V)} {f : Str} {o : HO} {tx ta : TE} {n : Nat} (I : Held G ((a, .ins C dx fs) :: M2) H) (c : Cls K C) (na : NoAttr K C f) (hl : fs.length ≤ n) (hn : n < 900) (hv : ∀ Q' : VK, (∀ p, H p = none → Q' (.ref p) (upd H p o)) → tx σ H Q') (ha : ∀ H', Pv ta σ H' (.ref a))
    (k : ∀ p H', Held G ((a, .ins C dx (putF f (.ref p) fs)) :: (M2 ++ [(p, o)])) H' → (putF f (.ref p) fs).length ≤ n + 1 → D.nx σ H') : sFld K ta tx f D σ H :=
  hv _ fun p hp => by
    have I1 := I.new (o := o) hp
    exact ha _ _ ⟨a, C, dx, fs, rfl, I1.cl (a, _) (List.mem_cons_self ..), c, na, by omega, k p _ (I1.chg [] rfl) (by have := putF_len f (.ref p) fs; omega)⟩
theorem e_fld {M2 : List (Addr × HO)} {C a dx : Addr} {fs : List (Str × V)} {f : Str} {y : V} {ta : TE} {n : Nat} (I : Held G ((a, .ins C dx fs) :: M2) H) (c : Cls K C) (na : NoAttr K C f) (hl : fs.length ≤ n) (hn : n < 900) (ha : Pv ta σ H (.ref a))
    (k : ∀ H', Held G ((a, .ins C dx (putF f y fs)) :: M2) H' → (putF f y fs).length ≤ n + 1 → D.nx σ H') :
    ta σ H fun x H2 => ∃ a C dx fs, x = .ref a ∧ H2 a = some (.ins C dx fs) ∧ Cls K C ∧ NoAttr K C f ∧ fs.length < 1000 ∧ D.nx σ (upd H2 a (.ins C dx (putF f y fs))) :=
  ha _ ⟨a, C, dx, fs, rfl, I.cl (a, _) (List.mem_cons_self ..), c, na, by omega, k _ (I.chg [] rfl) (by have := putF_len f y fs; omega)⟩
theorem t_machine (P : PF K w) {ta : TA} {code wl : Addr} {most : Int} {wordsV : List Int} (hp : Pa ta σ H [.ref code, .ref wl, .int most]) (C : CI K H code vals cs) (CO : CodeOk cs ty (wideOf cs)) (hw : SqL K H wl (wordsV.map V.int) ∨ SqT K H wl (wordsV.map V.int)) (hwl : wordsV.length ≤ 1000)
    (k : ∀ G' H' c fa, Ex H G' → Ex H H' → MI K G' H' c fa [] (begin_ cs wordsV) .non → c.fl = flOf fa [] → c.wide = wideOf cs → c.most = most → c.code = code → Q (.ref c.m) H') :
    tMake (He.ga K "Machine") (sp_Machine_init K w) [] C8.E0 ta σ H Q := by
  refine hp _ fun x dx hx hdx hne => ?_
  refine ⟨rfl, ?_⟩
  unfold t_Machine_init
  obtain ⟨h, hd, c1, c2, c3, c4⟩ := CO.start
  have ew : startAt cs = h := by unfold startAt; rw [c1]
  have eh : headAt cs h = hd := by unfold headAt; rw [c3]
  obtain ⟨v0, q1, q2⟩ := C.at (i := 0) (by decide) c1
  obtain ⟨sa, sys, rfl, q3, q4⟩ := dp_tup q2
  obtain ⟨u1, ys, rfl, a1, q4⟩ := dpAll_cons q4
  obtain ⟨u2, ys, rfl, a2, q4⟩ := dpAll_cons q4
  obtain ⟨u3, ys, rfl, a3, q4⟩ := dpAll_cons q4
  rw [dpAll_nil q4, dp_str a1, dp_int a2, dp_int a3] at q3
  obtain ⟨hv, hat, hdp⟩ := C.at c2 c3
  obtain ⟨hp0, b1, b2, b3, rfl, HH⟩ := hi_of hdp
  have I0 := (Held.nil (Ex.refl H)).news (o := .ins (He.ga K "Machine") dx []) hx hdx hne
  have I0 : Held H ((x, .ins (He.ga K "Machine") dx []) :: []) (upd (upd H dx (.own x)) x (.ins (He.ga K "Machine") dx [])) := I0
  generalize hH1 : upd (upd H dx (.own x)) x (.ins (He.ga K "Machine") dx []) = H1 at I0 ⊢
  refine a_fldH I0 P.cM P.mCode (Nat.le_refl 0) (by decide) (pv_var rfl) (pv_var rfl) fun H2 I2 l2 => ?_
  refine a_fldH I2 P.cM P.mWide l2 (by decide) (pv_op (pv_op (pv_var rfl) pv_c (pr_ixl (ex_l I2.ex C.h) q1)) pv_c (pr_ixt (ex_t I2.ex q3) rfl)) (pv_var rfl) fun H3 I3 l3 => ?_
  dsimp only
  refine a_fldN (o := .lst (wordsV.map V.int)) I3 P.cM P.mLeft l3 (by decide) (fun Q' q => pv_var rfl _ ⟨wl, _, rfl, hw.imp (ex_l I3.ex) (ex_t I3.ex), q⟩) (fun _ => pv_var rfl) fun L H4 I4 l4 => ?_
  refine a_fldH I4 P.cM P.mMost l4 (by decide) (pv_var rfl) (pv_var rfl) fun H5 I5 l5 => ?_
  dsimp only
  refine a_fldN (o := .dK []) I5 P.cM P.mMem l5 (by decide) (fun Q' q => q) (fun _ => pv_var rfl) fun Mm H6 I6 l6 => ?_
  refine a_fldH I6 P.cM P.mTop l6 (by decide) pv_c (pv_var rfl) fun H7 I7 l7 => ?_
  -- the first frame
  dsimp only
  refine u_fld ?_
  refine u_lst ?_
  refine u_cons ?_
  refine t_frame P I7 (⟨ex_t I7.ex HH.hr, ex_t I7.ex HH.h1, ex_t I7.ex HH.h2, ex_t I7.ex HH.h3⟩ : HI K H7 hp0 b1 b2 b3 hd) (pa_cons (pv_op (pv_var rfl) (pv_op (pv_op (pv_var rfl) pv_c (pr_ixl (ex_l I7.ex C.h) q1)) pv_c (pr_ixt (ex_t I7.ex q3) rfl)) (pr_ixl (ex_l I7.ex C.h) hat)) (pa_cons pv_c pa_nil)) (by have := CO.heads _ _ c3; omega) fun G8 H8 fa e8 e8' I8 lp8 lk8 => ?_
  refine ⟨sz_of (by show 1 ≤ 100000; decide), fun F hF => ?_⟩
  have I9 := I8.new (o := .lst [.ref fa.a]) hF
  refine e_fld (I9 : Held G8 ((x, _) :: _) _) P.cM P.mFrames l7 (by decide) (pv_var rfl) fun H10 I10 l10 => ?_
  dsimp only
  refine a_fldN (o := .lst []) I10 P.cM P.mTold l10 (by decide) (fun Q' q => t_lst pa_nil (by decide) q) (fun _ => pv_var rfl) fun T H11 I11 l11 => ?_
  refine a_fldH I11 P.cM P.mMany l11 (by decide) pv_c (pv_var rfl) fun H12 I12 l12 => ?_
  refine a_fldH I12 P.cM P.mLooks l12 (by decide) pv_c (pv_var rfl) fun H13 I13 l13 => ?_
  refine a_fldH I13 P.cM P.mEnd l13 (by decide) pv_c (pv_var rfl) fun H14 I14 l14 => ?_
  have hcur : frame0 (headAt cs (startAt cs)) 0 = frame0 hd 0 := by rw [ew, eh]
  have es : begin_ cs wordsV = ⟨wordsV, [], 0, [], frame0 hd 0, [], 0, 0⟩ := by unfold begin_; rw [hcur]
  refine (⟨rfl, k G8 H14 ⟨x, dx, code, L, Mm, F, T, wideOf cs, most, [.ref fa.a]⟩ fa e8 (e8.trans I14.ex) ?_ rfl rfl rfl rfl⟩ : V.non = V.non ∧ Q (.ref x) H14)
  rw [es]
  refine ⟨I14.perm ?_, lp8, .nil⟩
  show List.Perm (_ :: _ :: _ :: _ :: _ :: _ :: [(F, _), (T, _)]) (_ :: _ :: _ :: (F, _) :: (T, _) :: (_ :: _ :: _ :: []))
  refine (((List.Perm.cons _ ?_).cons _).cons _)
  exact (List.perm_append_comm (l₁ := [_, _, _]) (l₂ := [_, _]))
/-! ### a run -/
theorem s_run_rows (P : PF K w) {code wl : Addr} {most : Int} {wordsV : List Int} (C : CI K H code vals cs) (CO : CodeOk cs ty (wideOf cs)) (hw : SqL K H wl (wordsV.map V.int) ∨ SqT K H wl (wordsV.map V.int)) (hwl : wordsV.length ≤ 1000) (hmost : 0 ≤ most ∧ most ≤ 1000)
    (k : ∀ H' v, Ex H H' → Dp K H' v (runs cs wordsV most).d → FinOk cs (wideOf cs) most (runs cs wordsV most) → Q v H') : sp_run_rows K w [.ref code, .ref wl, .int most] H Q E := by
  refine ⟨rfl, ?_⟩
  unfold t_run_rows
  have hW : 0 ≤ wideOf cs := by have := CO.w; omega
  refine u_asg ?_
  refine t_machine P (pa_cons (pv_var rfl) (pa_cons (pv_var rfl) (pa_cons (pv_var rfl) pa_nil))) C CO hw hwl fun G0 H0 c fa e0 e0' I0 f1 f2 f3 f4 => ?_
  have hc : c.wide = wideOf cs ∧ c.most = most ∧ c.code = code := ⟨f2, f3, f4⟩
  clear f2 f3 f4
  have O0 : PmOk cs ty (wideOf cs) most (begin_ cs wordsV) := by
    obtain ⟨h, hd, c1, c2, c3, c4⟩ := CO.start
    have ew : startAt cs = h := by unfold startAt; rw [c1]
    have eh : headAt cs h = hd := by unfold headAt; rw [c3]
    have F0 := (frame0_ok (cs := cs) (ty := ty) (CO.heads _ _ c3) hW 0).1
    refine ⟨⟨hd, ?_, ?_⟩, ?_, Nat.zero_le _, ⟨Int.le_refl _, hmost⟩, ?_, ?_, ?_, ?_, hwl, ?_⟩
    · show FrOk cs ty (wideOf cs) hd (frame0 (headAt cs (startAt cs)) 0)
      rw [ew, eh]; exact F0
    · show Goes cs ty hd (frame0 (headAt cs (startAt cs)) 0).at_
      rw [ew, eh]; exact c4
    · intro f hf; cases hf
    · show ((0 : Nat) : Int) ≤ 1000 * 0
      omega
    · intro f hf; cases hf
    · show ((0 : Nat) : Int) ≤ 0
      omega
    · intro f hf; cases hf
    · show (0 : Int) ≤ 0 ∧ (0 : Int) ≤ 0
      omega
  refine ⟨fun n σ' H' => σ' = [some (.ref code), some (.ref wl), some (.int most), some (.ref c.m)] ∧
      ((∃ G' fa fas s, Ex G0 G' ∧ MI K G' H' { c with fl := flOf fa fas } fa fas s .non ∧ PmOk cs ty (wideOf cs) most s ∧ n = (most - s.many).toNat + 1 ∧ runN cs (wideOf cs) most n s = runs cs wordsV most) ∨
        (n = 0 ∧ ∃ G', Ex G0 G' ∧ Done K G' H' c (runs cs wordsV most) ∧ FinOk cs (wideOf cs) most (runs cs wordsV most))), ⟨(most - 0).toNat + 1, rfl, .inl ⟨G0, fa, [], begin_ cs wordsV, Ex.refl _, ?_, O0, rfl, ?_⟩⟩, ?_⟩
  · rw [← f1]; exact I0
  · unfold runs
    rw [Int.sub_zero]
  rintro n σ' H' ⟨rfl, ⟨G', fa, fas, s, e1, I1, O1, hn, hr⟩ | ⟨rfl, G', e1, D1, hfin⟩⟩
  · refine pt_test (pv_op (pv_fld (pv_var rfl) I1.hm P.cM P.mEnd mF_end) pv_c pr_isN) _ ?_
    refine u_true ⟨fun σ'' H'' => ∃ m', m' < n ∧ (σ'' = [some (.ref code), some (.ref wl), some (.int most), some (.ref c.m)] ∧
      ((∃ G' fa fas s, Ex G0 G' ∧ MI K G' H'' { c with fl := flOf fa fas } fa fas s .non ∧ PmOk cs ty (wideOf cs) most s ∧ m' = (most - s.many).toNat + 1 ∧ runN cs (wideOf cs) most m' s = runs cs wordsV most) ∨
        (m' = 0 ∧ ∃ G', Ex G0 G' ∧ Done K G' H'' c (runs cs wordsV most) ∧ FinOk cs (wideOf cs) most (runs cs wordsV most)))), fun _ _ h => h, ?_⟩
    refine u_drop ?_
    refine t_meth (pv_var rfl) I1.hm mF_m4 pa_nil ?_
    have so := step_ok CO O1
    refine s_step (c := { c with fl := flOf fa fas }) P I1 (vals := vals) (cs := cs) (ty := ty) (by show CodeOk cs ty c.wide; rw [hc.1]; exact CO) (by show PmOk cs ty c.wide c.most s; rw [hc.1, hc.2.1]; exact O1) (by show CI K G' c.code vals cs; rw [hc.2.2]; exact C.ex (e0.trans e1)) rfl ?_
    have ec : step cs ({ c with fl := flOf fa fas } : MC).wide ({ c with fl := flOf fa fas } : MC).most s = step cs (wideOf cs) most s := by
      show step cs c.wide c.most s = _
      rw [hc.1, hc.2.1]
    rw [ec]
    subst hn
    have hr2 : (match step cs (wideOf cs) most s with
      | .fin f => f
      | .go s' => runN cs (wideOf cs) most (most - s.many).toNat s') = runs cs wordsV most := hr
    cases ho : step cs (wideOf cs) most s with
    | fin f =>
      rw [ho] at hr2 so
      have hr2 : f = runs cs wordsV most := hr2
      have so : FinOk cs (wideOf cs) most f := so
      intro G'' H'' e'' D''
      rw [hr2] at D'' so
      exact ⟨0, Nat.succ_pos _, rfl, .inr ⟨rfl, G'', e1.trans e'', D'', so⟩⟩
    | go s' =>
      rw [ho] at hr2 so
      obtain ⟨O2, hm2⟩ := so
      have hr2 : runN cs (wideOf cs) most (most - s.many).toNat s' = runs cs wordsV most := hr2
      have hq : (most - s.many).toNat = (most - s'.many).toNat + 1 := by have := O2.many; omega
      rw [hq] at hr2
      intro G'' H'' fa' fas' e'' I''
      exact ⟨(most - s'.many).toNat + 1, by omega, rfl, .inl ⟨G'', fa', fas', s', e1.trans e'', I'', O2, rfl, hr2⟩⟩
  · obtain ⟨e2, top, a, hm, hd, ht⟩ := D1
    refine pt_test (pv_op (pv_fld (pv_var rfl) hm P.cM P.mEnd mF_end) pv_c pr_isN) _ ?_
    refine u_false ?_
    dsimp only
    refine u_ret ?_
    refine u_tup ?_
    refine u_cons ?_
    refine pv_fld (pv_var rfl) hm P.cM P.mTold mF_told _ ⟨c.told, _, rfl, .inl ⟨sq_of ht, fun p hp => ?_⟩⟩
    have e3 := Ex.new (o := .tup ((runs cs wordsV most).told.map V.int)) hp
    have hm2 := e3 _ _ hm
    refine pa_cons (pv_fld (pv_var rfl) hm2 P.cM P.mEnd mF_end) (pa_cons (pv_fld (pv_var rfl) hm2 P.cM P.mMany mF_many) (pa_cons (pv_fld (pv_var rfl) hm2 P.cM P.mLooks mF_looks) pa_nil)) _ ⟨sz_of (by show 4 ≤ 100000; decide), fun q hq => ?_⟩
    have e4 := Ex.new (o := .tup [.ref p, .ref a, .int (runs cs wordsV most).many, .int (runs cs wordsV most).looks]) hq
    refine k _ (.ref q) (((e0.trans e1).trans e2).trans (e3.trans e4)) (.tup (st_of upd_same) (.cons (.tup (st_of (e4 _ _ upd_same)) (dpAll_ints _)) (.cons (dp_ex (e2.trans (e3.trans e4)) _ hd) (.cons (.int _) (.cons (.int _) .nil))))) hfin
end
end B72


set_option Elab.async false
set_option linter.all false
set_option maxRecDepth 100000
set_option maxHeartbeats 400000
/-! C1: what the law draws: tape, draw, pick, words. -/
namespace B72
open PySem L2 Evl R72
/-- the tape at t, n the most that were drawn -/
def Gn (G : Hp) (M : List (Addr × HO)) (t : Addr) (n : Nat) (H : Hp) : Prop := ∃ own mixed k : Int, Held G ((t, .lst [.int own, .int mixed, .int k]) :: M) H ∧ 0 ≤ own ∧ 0 ≤ mixed ∧ 0 ≤ k ∧ k ≤ n
section
variable {K : PySem.W.Frag} {w : World} {G G' H H' : Hp} {M : List (Addr × HO)} {t : Addr} {n : Nat} {Q : VK} {E : XK} {σ : L2.St} {D : Ends}
theorem Gn.ex (g : Gn G M t n H) : Ex G H := g.elim fun _ ⟨_, _, h, _⟩ => h.ex
theorem Gn.grow (g : Gn G M t n H) (e : Ex H H') : Gn G M t n H' := by
  obtain ⟨a, b, c, h, r⟩ := g
  exact ⟨a, b, c, h.grow e, r⟩
theorem Gn.up (g : Gn G M t n H) {m : Nat} (h : n ≤ m) : Gn G M t m H := by
  obtain ⟨a, b, c, h', r1, r2, r3, r4⟩ := g
  exact ⟨a, b, c, h', r1, r2, r3, by omega⟩
theorem Gn.tup (g : Gn G M t n H) {p : Addr} {o : HO} (hp : H p = none) : Gn (upd G p o) M t n (upd H p o) ∧ Ex G (upd G p o) := by
  obtain ⟨a, b, c, h, r⟩ := g
  exact ⟨⟨a, b, c, h.tup hp, r⟩, Ex.new (fresh_back h.ex hp)⟩
theorem Gn.new (g : Gn G M t n H) {p : Addr} {o : HO} (hp : H p = none) : Gn G (M ++ [(p, o)]) t n (upd H p o) := by
  obtain ⟨a, b, c, h, r⟩ := g
  exact ⟨a, b, c, h.new hp, r⟩
theorem Gn.chg (g : Gn G M t n H) (c1 : List (Addr × HO)) {c2 : List (Addr × HO)} {p : Addr} {o o' : HO} (h0 : M = c1 ++ (p, o) :: c2) : Gn G (c1 ++ (p, o') :: c2) t n (upd H p o') := by
  obtain ⟨a, b, c, h, r⟩ := g
  exact ⟨a, b, c, h.chg ((t, .lst [.int a, .int b, .int c]) :: c1) (by rw [h0]; rfl), r⟩
theorem Gn.at (g : Gn G M t n H) {p : Addr} {o : HO} (h : (p, o) ∈ M) : H p = some o := by
  obtain ⟨a, b, c, h', r⟩ := g
  exact h'.cl (p, o) (List.mem_cons_of_mem _ h)
theorem g_set {to ti : TE} {p : Addr} {xs : List V} {k : Int} {j : Nat} {v : V} {Q : L2.St → Hp → Prop} (ho : Pv to σ H (.ref p)) (hi : Pv ti σ H (.int k)) (hp : H p = some (.lst xs)) (hj : ixN xs.length k = some j) (kk : Q σ (upd H p (.lst (xs.set j v)))) : gSub to ti rSetL v σ H Q :=
  ho _ (hi _ ⟨p, xs, k, j, rfl, rfl, hp, hj, kk⟩)
theorem cmul_of {i j : Int} {a b : Nat} (hi : i.natAbs < 2 ^ a) (hj : j.natAbs < 2 ^ b) (h : a + b < 1000000) : CMulW i j := by
  unfold CMulW
  have l : ∀ (m c : Nat), m < 2 ^ c → m.log2 ≤ c := fun m c h => by
    by_cases z : m = 0
    · subst z; simp
    · exact Nat.le_of_lt ((Nat.log2_lt z).mpr h)
  have := l _ _ hi
  have := l _ _ hj
  omega
theorem s_draw (g : Gn G M t n H) (hn : n ≤ 1000000) {many : Int} (hm : 0 < many ∧ many < 1000000) (k : ∀ H' d, Gn G M t (n + 1) H' → 0 ≤ d → d < many → Q (.int d) H') : sp__law_draw K w [.ref t, .int many] H Q E := by
  obtain ⟨own, mixed, c, I, h0, h1, h2, h3⟩ := g
  refine ⟨rfl, ?_⟩
  unfold t__law_draw
  have ht : H t = some (.lst [.int own, .int mixed, .int c]) := I.cl (t, _) (List.mem_cons_self ..)
  refine a_if (pt_test (pv_op (pv_op (pv_var rfl) pv_c (pr_ixl (sq_of ht) rfl)) (pv_var rfl) pr_ge)) (fun hb => ?_) fun hb => ?_
  · refine a_asg (pv_op (pv_op (pv_var rfl) pv_c (pr_ixl (sq_of ht) rfl)) (pv_var rfl) (pr_mod (by omega))) ?_
    refine a_asg (pv_op (pv_op (pv_var rfl) pv_c (pr_ixl (sq_of ht) rfl)) (pv_var rfl) (pr_fdv ⟨by omega, by omega⟩)) (g_set (pv_var rfl) pv_c ht rfl ?_)
    have I1 := I.chg (o' := .lst [.int (own.fdiv many), .int mixed, .int c]) [] rfl
    have e1 := Int.fmod_nonneg_of_pos own hm.1
    have e2 := Int.fmod_lt_of_pos own hm.1
    have e3 : 0 ≤ own.fdiv many := by
      rw [Int.fdiv_eq_ediv_of_nonneg _ (by omega)]
      exact Int.ediv_nonneg h0 (by omega)
    exact pv_var rfl _ (k _ _ ⟨_, _, _, I1, e3, h1, h2, by omega⟩ e1 e2)
  · refine a_asg (pv_op (pv_op (pv_var rfl) pv_c (pr_ixl (sq_of ht) rfl)) pv_c pr_add) (g_set (pv_var rfl) pv_c ht rfl ?_)
    have I1 := I.chg (o' := .lst [.int own, .int mixed, .int (c + 1)]) [] rfl
    refine a_asgL (pa_cons pv_c (pa_cons pv_c (pa_cons pv_c (pa_cons pv_c (pa_cons pv_c (pa_cons pv_c (pa_cons pv_c (pa_cons pv_c pa_nil)))))))) (by show 8 ≤ 100000; decide) fun p hp => ?_
    have e1 := Ex.new (o := HO.lst [.int 2147483489, .int 2147483477, .int 2147483423, .int 2147483399, .int 2147483353, .int 2147483323, .int 2147483269, .int 2147483249]) hp
    have I2 := I1.grow e1
    have ht2 : _ = some (HO.lst [.int own, .int mixed, .int (c + 1)]) := I2.cl (t, _) (List.mem_cons_self ..)
    have prime : ∀ i : Int, ∃ q : Int, atI [V.int 2147483489, .int 2147483477, .int 2147483423, .int 2147483399, .int 2147483353, .int 2147483323, .int 2147483269, .int 2147483249] (i.fmod 8) = some (.int q) ∧ 2147483249 ≤ q ∧ q ≤ 2147483489 := by
      intro i
      have a := Int.fmod_nonneg_of_pos i (b := 8) (by decide)
      have b := Int.fmod_lt_of_pos i (b := 8) (by decide)
      generalize i.fmod 8 = j at a b
      have hj : j = 0 ∨ j = 1 ∨ j = 2 ∨ j = 3 ∨ j = 4 ∨ j = 5 ∨ j = 6 ∨ j = 7 := by omega
      rcases hj with h | h | h | h | h | h | h | h <;> subst h <;> exact ⟨_, rfl, by decide, by decide⟩
    obtain ⟨q1, p1, p2, p3⟩ := prime (c + 1)
    obtain ⟨q2, p4, p5, p6⟩ := prime (c + 1 + 3)
    refine a_asg (pv_op (pv_var rfl) (pv_op (pv_op (pv_var rfl) pv_c (pr_ixl (sq_of ht2) rfl)) pv_c (pr_mod (by decide))) (pr_ixl (sq_of upd_same) p1)) ?_
    have m1 := Int.fmod_nonneg_of_pos mixed (b := q1) (by omega)
    have m2 := Int.fmod_lt_of_pos mixed (b := q1) (by omega)
    generalize hmx : mixed.fmod q1 = mx at m1 m2
    have bq : mx * (2 * (c + 1) + 7) ≤ 2147483489 * 3000009 := by
      refine Int.mul_le_mul (by omega) (by omega) (by omega) (by omega)
    have bq0 : 0 ≤ mx * (2 * (c + 1) + 7) := Int.mul_nonneg m1 (by omega)
    refine a_asg (pv_op (pv_op (pv_op (pv_op (pv_var rfl) pv_c (pr_ixl (sq_of ht2) rfl)) (pv_var rfl) (pr_mod (by omega))) (pv_op (pv_op pv_c (pv_op (pv_var rfl) pv_c (pr_ixl (sq_of ht2) rfl)) (pr_mul (cmul_of (a := 2) (b := 32) (by decide) (by omega) (by decide)))) pv_c pr_add) (pr_mul (cmul_of (a := 32) (b := 32) (by rw [hmx]; omega) (by omega) (by decide)))) (pv_op pv_c (pv_op (pv_var rfl) pv_c (pr_ixl (sq_of ht2) rfl)) (pr_mul (cmul_of (a := 16) (b := 32) (by decide) (by omega) (by decide)))) pr_add) ?_
    rw [hmx]
    have b1 : 0 ≤ mx * (2 * (c + 1) + 7) + 7001 * (c + 1) ∧ mx * (2 * (c + 1) + 7) + 7001 * (c + 1) < 18446744073709551616 := by omega
    generalize mx * (2 * (c + 1) + 7) + 7001 * (c + 1) = f1 at b1
    refine a_asg (pv_op (pv_op (pv_var rfl) pv_c (fun Q' q => ⟨f1, 3, rfl, rfl, ⟨by decide, by decide, by omega⟩, q⟩)) (pv_var rfl) (pr_mod (by omega))) ?_
    have n1 := Int.fmod_nonneg_of_pos (f1 ^ (3 : Int).toNat) (b := q1) (by omega)
    have n2 := Int.fmod_lt_of_pos (f1 ^ (3 : Int).toNat) (b := q1) (by omega)
    generalize (f1 ^ (3 : Int).toNat).fmod q1 = f2 at n1 n2
    have o1 := Int.fmod_nonneg_of_pos mixed (b := 1000033) (by omega)
    have o2 := Int.fmod_lt_of_pos mixed (b := 1000033) (by omega)
    refine a_asg (pv_op (pv_op (pv_op (pv_var rfl) (pv_var rfl) (pr_mul (cmul_of (a := 32) (b := 32) (by omega) (by omega) (by decide)))) (pv_op (pv_op (pv_var rfl) pv_c (pr_ixl (sq_of ht2) rfl)) pv_c (pr_mod (by decide))) pr_add) (pv_op (pv_var rfl) pv_c (pr_ixl (sq_of ht2) rfl)) pr_add) ?_
    generalize mixed.fmod 1000033 = m3 at o1 o2
    have sq1 : f2 * f2 ≤ 2147483489 * 2147483489 := Int.mul_le_mul (by omega) (by omega) (by omega) (by omega)
    have sq2 : 0 ≤ f2 * f2 := Int.mul_nonneg n1 n1
    have b2 : 0 ≤ f2 * f2 + m3 + (c + 1) ∧ f2 * f2 + m3 + (c + 1) < 18446744073709551616 := by omega
    generalize f2 * f2 + m3 + (c + 1) = f3 at b2
    refine u_ret (pv_op (pv_op (pv_op (pv_op (pv_var rfl) pv_c (fun Q' q => ⟨f3, 5, rfl, rfl, ⟨by decide, by decide, by omega⟩, q⟩)) (pv_op (pv_var rfl) (pv_op (pv_op (pv_op (pv_var rfl) pv_c (pr_ixl (sq_of ht2) rfl)) pv_c pr_add) pv_c (pr_mod (by decide))) (pr_ixl (sq_of upd_same) p4)) (pr_mod (by omega))) pv_c (pr_fdv ⟨by decide, by decide⟩)) (pv_var rfl) (pr_mod (by omega)) _ ?_)
    exact k _ _ ⟨_, _, _, I2, h0, h1, by omega, by omega⟩ (Int.fmod_nonneg_of_pos _ hm.1) (Int.fmod_lt_of_pos _ hm.1)
theorem s_pick (g : Gn G M t n H) (hn : n ≤ 1000000) {a : Addr} {xs : List V} (hx : SqL K G a xs) (h0 : xs ≠ []) (hl : xs.length < 1000000) (k : ∀ H' v, Gn G M t (n + 1) H' → v ∈ xs → Q v H') : sp__law_pick K w [.ref t, .ref a] H Q E := by
  refine ⟨rfl, ?_⟩
  unfold t__law_pick
  refine u_ret (u_op (pv_var rfl _ ?_))
  have hlen : 0 < xs.length := List.length_pos_iff.mpr h0
  refine t_call (pa_cons (pv_var rfl) (pa_cons (pv_lenl (pv_var rfl) (ex_l g.ex hx)) pa_nil)) (s_draw g hn (by omega) fun H' d g' d0 d1 => ?_)
  have hd : d.toNat < xs.length := by omega
  refine pr_ixl (ex_l g'.ex hx) (v := xs[d.toNat]) (by rw [atI_nat d0 d1]; exact List.getElem?_eq_getElem hd) _ (k H' _ g' (List.getElem_mem hd))
end
end B72


set_option Elab.async false
set_option linter.all false
set_option maxRecDepth 100000
set_option maxHeartbeats 400000
/-! C2: words, heads, sides. -/
namespace B72
open PySem L2 Evl R72
section
variable {K : PySem.W.Frag} {w : World} {G G' H H' : Hp} {M : List (Addr × HO)} {t : Addr} {n : Nat} {Q : VK} {E : XK} {σ : L2.St} {D : Ends}
/-- a thing that changes no more -/
theorem Gn.freeze {M1 M2 : List (Addr × HO)} {p : Addr} {o : HO} (g : Gn G (M1 ++ (p, o) :: M2) t n H) : Gn (upd G p o) (M1 ++ M2) t n H ∧ Ex G (upd G p o) := by
  obtain ⟨a, b, c, h, r⟩ := g
  have hp : G p = none := h.gone p (by simp)
  have nd := h.nd
  have hpo : H p = some o := h.cl (p, o) (by simp)
  refine ⟨⟨a, b, c, ⟨fun x u hx => ?_, fun x hx => h.cl x ?_, ?_, fun x hx => ?_⟩, r⟩, Ex.new hp⟩
  · by_cases q : x = p
    · subst q; rw [upd_same] at hx; rw [hpo]; exact hx
    · rw [upd_ne q] at hx; exact h.ex x u hx
  · rcases List.mem_cons.mp hx with z | z
    · rw [z]; exact List.mem_cons_self ..
    · refine List.mem_cons_of_mem _ ?_
      rcases List.mem_append.mp z with z | z
      · exact List.mem_append_left _ z
      · exact List.mem_append_right _ (List.mem_cons_of_mem _ z)
  · refine List.Sublist.nodup ?_ nd
    simp only [List.map_cons, List.map_append]
    exact List.Sublist.cons₂ _ (List.Sublist.append (List.Sublist.refl _) (List.sublist_cons_self _ _))
  · have hx2 : x ∈ ((t, HO.lst [.int a, .int b, .int c]) :: (M1 ++ (p, o) :: M2)).map (·.1) := by
      simp only [List.map_cons, List.map_append, List.mem_cons, List.mem_append] at hx ⊢
      rcases hx with z | z | z
      · exact .inl z
      · exact .inr (.inl z)
      · exact .inr (.inr (.inr z))
    have ne : x ≠ p := by
      intro q
      subst q
      simp only [List.map_cons, List.map_append] at nd hx
      have n1 := List.nodup_cons.mp nd
      have n2 := List.nodup_append.mp n1.2
      have n3 := List.nodup_cons.mp n2.2.1
      rcases List.mem_cons.mp hx with z | z
      · exact n1.1 (by rw [← z]; simp)
      · rcases List.mem_append.mp z with z | z
        · exact n2.2.2 _ z _ (List.mem_cons_self ..) rfl
        · exact n3.1 z
    rw [upd_ne ne]
    exact h.gone x hx2
theorem s_a_word (g : Gn G M t n H) (hn : n ≤ 900000) {wide : Int} (hw : 1 ≤ wide ∧ wide ≤ 31) (k : ∀ G' H' v, Ex G G' → Gn G' M t (n + 3) H' → -wide ≤ v → v ≤ wide → Q (.int v) H') : sp__law_a_word K w [.ref t, .int wide] H Q E := by
  refine ⟨rfl, ?_⟩
  unfold t__law_a_word
  refine u_asg (u_lst (u_cons (pv_c _ (u_cons (pv_c _ (u_cons (pv_op pv_c pv_c pr_sub _ (u_cons (pv_var rfl _ (u_cons (pv_op pv_c (pv_var rfl) pr_sub _ (u_cons ?_))))))))))))
  refine u_op (t_call (pa_cons (pv_var rfl) (pa_cons (pv_op (pv_op pv_c (pv_var rfl) (pr_mul (cmul_small (by omega) (by omega)))) pv_c pr_add) pa_nil)) (s_draw g (by omega) (by omega) fun H1 d1 g1 a1 a2 => ?_))
  refine pv_var rfl _ (pr_sub _ (u_cons ?_))
  refine t_call (pa_cons (pv_var rfl) (pa_cons (pv_op (pv_var rfl) pv_c pr_add) pa_nil)) (s_draw g1 (by omega) (by omega) fun H2 d2 g2 b1 b2 => ?_)
  refine pa_nil _ ⟨sz_of (by show 7 ≤ 100000; decide), fun p hp => ?_⟩
  have g3 := g2.tup (o := .lst [.int 0, .int 1, .int (0 - 1), .int wide, .int (0 - wide), .int (d1 - wide), .int d2]) hp
  refine u_ret (t_call (pa_cons (pv_var rfl) (pa_cons (pv_var rfl) pa_nil)) (s_pick g3.1 (by omega) (sq_of upd_same) (by simp) (by show 7 < 1000000; decide) fun H4 v g4 hv => ?_))
  have hv : v = .int 0 ∨ v = .int 1 ∨ v = .int (0 - 1) ∨ v = .int wide ∨ v = .int (0 - wide) ∨ v = .int (d1 - wide) ∨ v = .int d2 := by simpa using hv
  have go : ∀ i : Int, v = .int i → -wide ≤ i → i ≤ wide → Q v H4 := fun i e h1 h2 => by rw [e]; exact k _ _ i g3.2 g4 h1 h2
  rcases hv with h | h | h | h | h | h | h
  · exact go _ h (by omega) (by omega)
  · exact go _ h (by omega) (by omega)
  · exact go _ h (by omega) (by omega)
  · exact go _ h (by omega) (by omega)
  · exact go _ h (by omega) (by omega)
  · exact go _ h (by omega) (by omega)
  · exact go _ h (by omega) (by omega)
end
/-- a head -/
structure Hr where
  name : Str
  plain : List Str
  fingers : List Str
  rows : List Str
  params : List Str
def Hr.kvs (h : Hr) (lp lf lr lq : Addr) : List (Key × V) := [(.inr "name", .str h.name), (.inr "plain", .ref lp), (.inr "fingers", .ref lf), (.inr "rows", .ref lr), (.inr "params", .ref lq)]
structure HeadG (G : Hp) (v : V) (h : Hr) : Prop where
  ex : ∃ a lp lf lr lq, v = .ref a ∧ G a = some (.dK (h.kvs lp lf lr lq)) ∧ G lp = some (.lst (h.plain.map V.str)) ∧ G lf = some (.lst (h.fingers.map V.str)) ∧ G lr = some (.lst (h.rows.map V.str)) ∧ G lq = some (.lst (h.params.map V.str))
def plains : List (List Str) := [["x"], ["x", "y"], ["x", "y", "z"]]
def fingersL : List (List Str) := [[], ["p"], ["p", "q"]]
def rowsL : List (List Str) := [[], ["a"], ["a", "b"]]
structure HrOk (k : Nat) (h : Hr) : Prop where
  name : (["main", "f", "g"] : List Str)[k]? = some h.name
  plain : h.plain ∈ plains
  fingers : h.fingers ∈ fingersL
  rows : h.rows ∈ rowsL
  pin : ∀ x ∈ h.params, x ∈ h.plain ++ h.fingers ++ h.rows
  plen : h.params.length ≤ 7
section
variable {K : PySem.W.Frag} {w : World} {G G' H H' : Hp} {M : List (Addr × HO)} {t : Addr} {n : Nat} {Q : VK} {E : XK} {σ : L2.St} {D : Ends} {h : Hr} {v : V}
theorem HeadG.mono (a : HeadG G v h) (e : Ex G G') : HeadG G' v h := by
  obtain ⟨a, lp, lf, lr, lq, e0, e1, e2, e3, e4, e5⟩ := a.ex
  exact ⟨a, lp, lf, lr, lq, e0, e _ _ e1, e _ _ e2, e _ _ e3, e _ _ e4, e _ _ e5⟩
theorem strsU (xs : List Str) (hx : ∀ x ∈ xs, PyData.strOk x = true) : SeqAt.shaped (.list (xs.map PyData.str)) = true := by
  have a : PyData.canLayAll0 (xs.map PyData.str) = true := by
    induction xs with
    | nil => rfl
    | cons x xs ih => simp only [List.map_cons, PyData.canLayAll0, PyData.canLay0, hx x (by simp), ih (fun y hy => hx y (List.mem_cons_of_mem _ hy)), Bool.and_self]
  have b : PyData.depthAll (xs.map PyData.str) = 0 := by
    clear a
    induction xs with
    | nil => rfl
    | cons x xs ih => simp only [List.map_cons, PyData.depthAll, PyData.depth, ih (fun y hy => hx y (List.mem_cons_of_mem _ hy)), Nat.max_self]
  unfold SeqAt.shaped
  simp only [PyData.canLay0, a, PyData.depth, b]
  decide
theorem okU : ∀ x ∈ U7, PyData.strOk x = true := by decide +kernel
theorem pl_in {h : Hr} (p : h.plain ∈ plains) : ∀ x ∈ h.plain, x ∈ U7 := by
  have q : ∀ l ∈ plains, ∀ x ∈ l, x ∈ U7 := by decide
  exact q _ p
theorem fi_in {h : Hr} (p : h.fingers ∈ fingersL) : ∀ x ∈ h.fingers, x ∈ U7 := by
  have q : ∀ l ∈ fingersL, ∀ x ∈ l, x ∈ U7 := by decide
  exact q _ p
theorem ro_in {h : Hr} (p : h.rows ∈ rowsL) : ∀ x ∈ h.rows, x ∈ U7 := by
  have q : ∀ l ∈ rowsL, ∀ x ∈ l, x ∈ U7 := by decide
  exact q _ p
/-! parts of a head -/
theorem pv_head (g : Gn G M t n H) (hd : HeadG G v h) {te : TE} (ht : Pv te σ H v) {f : Str} {a : Addr} {xs : List Str} (hx : ∃ a', v = .ref a' ∧ DGet H a' (.str f) (some (.ref a)) ∧ G a = some (.lst (xs.map V.str))) : Pv (tDGet te (tC (.str f))) σ H (.ref a) := by
  obtain ⟨a', rfl, d, _⟩ := hx
  exact pv_get ht pv_c d
theorem HeadG.plain (a : HeadG G v h) (e : Ex G H) : ∃ l, (∃ a', v = .ref a' ∧ DGet H a' (.str "plain") (some (.ref l)) ∧ G l = some (.lst (h.plain.map V.str))) := by
  obtain ⟨a, lp, lf, lr, lq, e0, e1, e2, e3, e4, e5⟩ := a.ex
  exact ⟨lp, a, e0, DGet.k (k := Sum.inr "plain") (e _ _ e1), e2⟩
theorem HeadG.fingers (a : HeadG G v h) (e : Ex G H) : ∃ l, (∃ a', v = .ref a' ∧ DGet H a' (.str "fingers") (some (.ref l)) ∧ G l = some (.lst (h.fingers.map V.str))) := by
  obtain ⟨a, lp, lf, lr, lq, e0, e1, e2, e3, e4, e5⟩ := a.ex
  exact ⟨lf, a, e0, DGet.k (k := Sum.inr "fingers") (e _ _ e1), e3⟩
theorem HeadG.rows (a : HeadG G v h) (e : Ex G H) : ∃ l, (∃ a', v = .ref a' ∧ DGet H a' (.str "rows") (some (.ref l)) ∧ G l = some (.lst (h.rows.map V.str))) := by
  obtain ⟨a, lp, lf, lr, lq, e0, e1, e2, e3, e4, e5⟩ := a.ex
  exact ⟨lr, a, e0, DGet.k (k := Sum.inr "rows") (e _ _ e1), e4⟩
theorem HeadG.params (a : HeadG G v h) (e : Ex G H) : ∃ l, (∃ a', v = .ref a' ∧ DGet H a' (.str "params") (some (.ref l)) ∧ G l = some (.lst (h.params.map V.str))) := by
  obtain ⟨a, lp, lf, lr, lq, e0, e1, e2, e3, e4, e5⟩ := a.ex
  exact ⟨lq, a, e0, DGet.k (k := Sum.inr "params") (e _ _ e1), e5⟩
theorem HeadG.name (a : HeadG G v h) (e : Ex G H) : ∃ a', v = .ref a' ∧ DGet H a' (.str "name") (some (.str h.name)) := by
  obtain ⟨a, lp, lf, lr, lq, e0, e1, e2, e3, e4, e5⟩ := a.ex
  exact ⟨a, e0, DGet.k (k := Sum.inr "name") (e _ _ e1)⟩
/-- two lists of words, one behind the other -/
theorem t_cat (g : Gn G M t n H) {ta tb : TE} {a b : Addr} {xs ys : List Str} (ha : Pv ta σ H (.ref a)) (hb : Pv tb σ H (.ref b)) (ga : G a = some (.lst (xs.map V.str))) (gb : G b = some (.lst (ys.map V.str))) (hl : xs.length + ys.length ≤ 1000)
    (k : ∀ p, H p = none → Q (.ref p) (upd H p (.lst ((xs ++ ys).map V.str)))) : tOp (rAddX K) ta tb σ H Q :=
  ha _ (hb _ (.inr (.inl ⟨a, b, _, _, rfl, rfl, g.ex _ _ ga, g.ex _ _ gb, by rw [List.length_map, List.length_map]; exact sz_of (by omega), fun p hp => by rw [← List.map_append]; exact k p hp⟩)))
theorem s_numbers (g : Gn G M t n H) (hd : HeadG G v h) (hk : h.plain.length + h.fingers.length ≤ 100) (k : ∀ p, H p = none → Q (.ref p) (upd H p (.lst ((h.plain ++ h.fingers).map V.str)))) : sp__law_numbers K w [v] H Q E := by
  refine ⟨rfl, ?_⟩
  unfold t__law_numbers
  obtain ⟨l1, h1⟩ := hd.plain g.ex
  obtain ⟨l2, h2⟩ := hd.fingers g.ex
  refine u_ret (t_cat g (pv_head g hd (pv_var rfl) h1) (pv_head g hd (pv_var rfl) h2) (h1.elim fun _ z => z.2.2) (h2.elim fun _ z => z.2.2) (by omega) k)
/-- a list of words, picked from -/
theorem pick_strs (g : Gn G M t n H) (hn : n ≤ 1000000) {a : Addr} {xs : List Str} (hx : G a = some (.lst (xs.map V.str))) (h0 : xs ≠ []) (hl : xs.length < 1000) (k : ∀ H' x, Gn G M t (n + 1) H' → x ∈ xs → Q (.str x) H') : sp__law_pick K w [.ref t, .ref a] H Q E :=
  s_pick g hn (sq_of hx) (by simpa using h0) (by rw [List.length_map]; omega) fun H' v g' hv => by
    obtain ⟨x, hx, rfl⟩ := List.mem_map.mp hv
    exact k H' x g' hx
end
theorem Gn.addG {G H : Hp} {M : List (Addr × HO)} {t : Addr} {n : Nat} (g : Gn G M t n H) {p : Addr} {o : HO} (hp : H p = none) : Gn (upd G p o) M t n (upd H p o) ∧ Ex G (upd G p o) ∧ upd G p o p = some o := ⟨(g.tup hp).1, (g.tup hp).2, upd_same⟩
section
variable {K : PySem.W.Frag} {w : World} {G G' H H' : Hp} {M : List (Addr × HO)} {t : Addr} {n : Nat} {Q : VK} {E : XK} {σ : L2.St} {D : Ends} {h : Hr} {v : V} {j : Nat}
/-- one of a head's numbers -/
theorem pick_number (g : Gn G M t n H) (hn : n ≤ 1000000) (hd : HeadG G v h) (ok : HrOk j h) {ta th : TE} (ha : ∀ H', Pv ta σ H' (.ref t)) (hh : Pv th σ H v) (k : ∀ G' H' x, Ex G G' → Gn G' M t (n + 1) H' → x ∈ h.plain ++ h.fingers → Q (.str x) H') :
    tCall (sp__law_pick K w) [] C8.E0 (tCons ta (tCons (tCall (sp__law_numbers K w) [] C8.E0 (tCons th tNil)) tNil)) σ H Q := by
  have b1 : ∀ l ∈ plains, 1 ≤ l.length ∧ l.length ≤ 3 := by decide
  have b2 : ∀ l ∈ fingersL, l.length ≤ 2 := by decide
  have b1 := b1 _ ok.plain
  have b2 := b2 _ ok.fingers
  refine u_call (u_cons (ha H _ (u_cons (t_call (pa_cons hh pa_nil) (s_numbers g hd (by omega) fun p hp => ?_)))))
  obtain ⟨g1, e1, hp1⟩ := g.addG (o := .lst ((h.plain ++ h.fingers).map V.str)) hp
  refine pa_nil _ ?_
  refine pick_strs g1 hn hp1 (fun z => by have := congrArg List.length z; rw [List.length_append] at this; simp only [List.length_nil] at this; omega) (by rw [List.length_append]; omega) fun H' x g' hx => k _ H' x e1 g' hx
theorem pick_plain (g : Gn G M t n H) (hn : n ≤ 1000000) (hd : HeadG G v h) (ok : HrOk j h) {ta th : TE} (ha : Pv ta σ H (.ref t)) (hh : Pv th σ H v) (k : ∀ H' x, Gn G M t (n + 1) H' → x ∈ h.plain → Q (.str x) H') :
    tCall (sp__law_pick K w) [] C8.E0 (tCons ta (tCons (tDGet th (tC (.str "plain"))) tNil)) σ H Q := by
  have b1 : ∀ l ∈ plains, 1 ≤ l.length ∧ l.length ≤ 3 := by decide
  have b1 := b1 _ ok.plain
  obtain ⟨l1, h1⟩ := hd.plain g.ex
  refine t_call (pa_cons ha (pa_cons (pv_head g hd hh h1) pa_nil)) (pick_strs g hn (h1.elim fun _ z => z.2.2) (fun z => by rw [z] at b1; simp at b1) (by omega) k)
theorem pick_finger (g : Gn G M t n H) (hn : n ≤ 1000000) (hd : HeadG G v h) (ok : HrOk j h) (hf : h.fingers ≠ []) {ta th : TE} (ha : Pv ta σ H (.ref t)) (hh : Pv th σ H v) (k : ∀ H' x, Gn G M t (n + 1) H' → x ∈ h.fingers → Q (.str x) H') :
    tCall (sp__law_pick K w) [] C8.E0 (tCons ta (tCons (tDGet th (tC (.str "fingers"))) tNil)) σ H Q := by
  have b1 : ∀ l ∈ fingersL, l.length ≤ 3 := by decide
  have b1 := b1 _ ok.fingers
  obtain ⟨l1, h1⟩ := hd.fingers g.ex
  refine t_call (pa_cons ha (pa_cons (pv_head g hd hh h1) pa_nil)) (pick_strs g hn (h1.elim fun _ z => z.2.2) hf (by omega) k)
theorem pick_row (g : Gn G M t n H) (hn : n ≤ 1000000) (hd : HeadG G v h) (ok : HrOk j h) (hf : h.rows ≠ []) {ta th : TE} (ha : Pv ta σ H (.ref t)) (hh : Pv th σ H v) (k : ∀ H' x, Gn G M t (n + 1) H' → x ∈ h.rows → Q (.str x) H') :
    tCall (sp__law_pick K w) [] C8.E0 (tCons ta (tCons (tDGet th (tC (.str "rows"))) tNil)) σ H Q := by
  have b1 : ∀ l ∈ rowsL, l.length ≤ 3 := by decide
  have b1 := b1 _ ok.rows
  obtain ⟨l1, h1⟩ := hd.rows g.ex
  refine t_call (pa_cons ha (pa_cons (pv_head g hd hh h1) pa_nil)) (pick_strs g hn (h1.elim fun _ z => z.2.2) hf (by omega) k)
/-- a side of a test -/
theorem s_a_side (g : Gn G M t n H) (hn : n ≤ 800000) (hd : HeadG G v h) (ok : HrOk j h) {wide : Int} (hw : 1 ≤ wide ∧ wide ≤ 31) (k : ∀ G' H' z, Ex G G' → Gn G' M t (n + 6) H' → (match z with | .inl x => x ∈ h.plain ++ h.fingers | .inr i => -wide ≤ i ∧ i ≤ wide) → Q (Side.v z) H') :
    sp__law_a_side K w [.ref t, v, .int wide] H Q E := by
  refine ⟨rfl, ?_⟩
  unfold t__law_a_side
  refine u_ret (u_call (u_cons (pv_var rfl _ (u_cons (u_lst (u_cons ?_))))))
  refine pick_number g (by omega) hd ok (fun _ => pv_var rfl) (pv_var rfl) fun G1 H1 x1 e1 g1 m1 => u_cons ?_
  refine pick_number g1 (by omega) (hd.mono e1) ok (fun _ => pv_var rfl) (pv_var rfl) fun G2 H2 x2 e2 g2 m2 => u_cons ?_
  refine t_call (pa_cons (pv_var rfl) (pa_cons (pv_var rfl) pa_nil)) (s_a_word g2 (by omega) hw fun G3 H3 i e3 g3 i1 i2 => ?_)
  refine pa_nil _ ⟨sz_of (by show 3 ≤ 100000; decide), fun p hp => ?_⟩
  obtain ⟨g4, e4, hp4⟩ := g3.addG (o := .lst [.str x1, .str x2, .int i]) hp
  refine pa_nil _ (s_pick g4 (by omega) (sq_of hp4) (by simp) (by show 3 < 1000000; decide) fun H5 v5 g5 hv => ?_)
  have e := ((e1.trans e2).trans e3).trans e4
  have hv : v5 = .str x1 ∨ v5 = .str x2 ∨ v5 = .int i := by simpa using hv
  rcases hv with z | z | z
  · rw [z]; exact k _ H5 (.inl x1) e g5 m1
  · rw [z]; exact k _ H5 (.inl x2) e g5 m2
  · rw [z]; exact k _ H5 (.inr i) e g5 ⟨i1, i2⟩
theorem s_test (g : Gn G M t n H) (hn : n ≤ 800000 - 100) (hd : HeadG G v h) (ok : HrOk j h) {wide : Int} (hw : 1 ≤ wide ∧ wide ≤ 31)
    (k : ∀ G' H' p a (s : Str) b, Ex G G' → Gn G' M t (n + 13) H' → (match a with | .inl x => x ∈ h.plain ++ h.fingers | .inr i => -wide ≤ i ∧ i ≤ wide) → (match b with | .inl x => x ∈ h.plain ++ h.fingers | .inr i => -wide ≤ i ∧ i ≤ wide) → (s = "<" ∨ s = "<=") →
      G' p = some (.tup [Side.v a, .str s, Side.v b]) → Q (.ref p) H') : sp__law_test K w [.ref t, v, .int wide] H Q E := by
  refine ⟨rfl, ?_⟩
  unfold t__law_test
  refine u_ret (u_tup (u_cons (t_call (pa_cons (pv_var rfl) (pa_cons (pv_var rfl) (pa_cons (pv_var rfl) pa_nil))) (s_a_side g (by omega) hd ok hw fun G1 H1 a e1 g1 m1 => u_cons ?_))))
  refine u_call (u_cons (pv_var rfl _ (u_cons (t_lst (pa_cons pv_c (pa_cons pv_c pa_nil)) (by show 2 ≤ 100000; decide) fun p hp => ?_))))
  obtain ⟨g2, e2, hp2⟩ := g1.addG (o := .lst [.str "<", .str "<="]) hp
  refine pa_nil _ (s_pick g2 (by omega) (sq_of hp2) (by simp) (by show 2 < 1000000; decide) fun H3 v3 g3 hv => u_cons ?_)
  refine t_call (pa_cons (pv_var rfl) (pa_cons (pv_var rfl) (pa_cons (pv_var rfl) pa_nil))) (s_a_side g3 (by omega) (hd.mono (e1.trans e2)) ok hw fun G4 H4 b e4 g4 m4 => ?_)
  refine pa_nil _ ⟨sz_of (by show 3 ≤ 100000; decide), fun p5 hp5 => ?_⟩
  obtain ⟨g5, e5, h5⟩ := g4.addG (o := .tup [Side.v a, v3, Side.v b]) hp5
  have hv : v3 = .str "<" ∨ v3 = .str "<=" := by simpa using hv
  have e := ((e1.trans e2).trans e4).trans e5
  rcases hv with z | z <;> subst z
  · exact k _ _ p5 a _ b e g5 m1 m4 (.inl rfl) h5
  · exact k _ _ p5 a _ b e g5 m1 m4 (.inr rfl) h5
end
end B72


set_option Elab.async false
set_option linter.all false
set_option maxRecDepth 100000
set_option maxHeartbeats 400000
/-! C3: acts drawn. -/
namespace B72
open PySem L2 Evl R72
/-- what a step of a program does -/
inductive PA
  | plain (a : RA) | call (x f : Str) (gs : List Str)
def PA.kind : PA → Str
  | .plain a => a.kind
  | .call .. => "call"
def PA.parts : PA → List PyData
  | .plain a => a.parts
  | .call x f gs => [.str x, .str f, .tuple (gs.map .str)]
def PA.d (a : PA) : PyData := .tuple (.str a.kind :: a.parts)
def NumIn (h : Hr) (x : Str) : Prop := x ∈ h.plain ++ h.fingers
def SideW (wide : Int) (h : Hr) : Side → Prop
  | .inl x => NumIn h x
  | .inr i => -wide ≤ i ∧ i ≤ wide
/-- an act of a def whose head is h; J tells where it may go -/
def ActOk (wide : Int) (h : Hr) (hs : List Hr) (J : Int → Prop) : PA → Prop
  | .plain (.set x n) => NumIn h x ∧ -wide ≤ n ∧ n ≤ wide
  | .plain (.sum k x y z) => k ∈ sumKs ∧ NumIn h x ∧ NumIn h y ∧ SideW wide h z ∧ (k = "add" → ∃ i, z = .inr i)
  | .plain (.over k x y z) => (k = "over" ∨ k = "rest") ∧ NumIn h x ∧ NumIn h y ∧ NumIn h z
  | .plain (.mid x y z) => NumIn h x ∧ NumIn h y ∧ NumIn h z
  | .plain (.row a x) => a ∈ h.rows ∧ NumIn h x
  | .plain (.get x a p) => NumIn h x ∧ a ∈ h.rows ∧ NumIn h p
  | .plain (.put a p x) => a ∈ h.rows ∧ NumIn h p ∧ NumIn h x
  | .plain (.len x a) => NumIn h x ∧ a ∈ h.rows
  | .plain (.ask x l g) => NumIn h x ∧ -wide ≤ l ∧ l ≤ g ∧ g ≤ wide
  | .plain (.tell x) => NumIn h x
  | .plain (.chk a g b) => SideW wide h a ∧ (g = "<" ∨ g = "<=") ∧ SideW wide h b
  | .plain (.iff a g b j) => SideW wide h a ∧ (g = "<" ∨ g = "<=") ∧ SideW wide h b ∧ J j
  | .plain (.go j) => J j
  | .plain (.call ..) => False
  | .plain (.back x) => NumIn h x
  | .call x f gs => NumIn h x ∧ (∃ o ∈ hs, o.name = f ∧ gs.length = o.params.length) ∧ (∀ g ∈ gs, NumIn h g ∨ g ∈ h.rows) ∧ gs.length ≤ 7
def Raw (j : Int) : Prop := 0 ≤ j ∧ j ≤ 1000
section
variable {K : PySem.W.Frag} {w : World} {G G' H H' : Hp} {M : List (Addr × HO)} {t : Addr} {n : Nat} {Q : VK} {E : XK} {σ : L2.St} {D : Ends} {h : Hr} {hs : List Hr} {v : V} {j : Nat} {wide : Int}
theorem t_catT {ta tb : TE} {a b : Addr} {xs ys : List V} (ha : Pv ta σ H (.ref a)) (hb : Pv tb σ H (.ref b)) (ga : SqT K H a xs) (gb : SqT K H b ys) (hx : xs ≠ []) (hy : ys ≠ []) (hl : xs.length + ys.length ≤ 1000) (k : ∀ p, H p = none → Q (.ref p) (upd H p (.tup (xs ++ ys)))) : tOp (rAddX K) ta tb σ H Q :=
  ha _ (hb _ (.inr (.inr ⟨a, b, xs, ys, rfl, rfl, ga, gb, sz_of (by omega), fun z => absurd z hx, fun _ z => absurd z hy, fun _ _ => k⟩)))
/-- what an act's maker gives back -/
abbrev KA (K : PySem.W.Frag) (G : Hp) (M : List (Addr × HO)) (t : Addr) (n : Nat) (wide : Int) (h : Hr) (hs : List Hr) (Q : VK) : Prop := ∀ G' H' v a, Ex G G' → Gn G' M t n H' → Dp K G' v (PA.d a) → ActOk wide h hs Raw a → Q v H'
/-- an act made at the end -/
theorem ka_tup (g : Gn G M t n H) {G0 : Hp} (e : Ex G0 G) {m : Nat} (hm : n ≤ m) (kk : KA K G0 M t m wide h hs Q) (a : PA) {xs : List V} (hd : DpAll K G xs (.str a.kind :: a.parts)) (ok : ActOk wide h hs Raw a) : ∀ p, H p = none → Q (.ref p) (upd H p (.tup xs)) := fun p hp => by
  obtain ⟨g1, e1, h1⟩ := g.addG (o := .tup xs) hp
  exact kk _ _ _ a (e.trans e1) (g1.up hm) (.tup (st_of h1) (dpAll_ex e1 _ hd)) ok
theorem s_row_act (g : Gn G M t n H) (hn : n ≤ 700000) (hd : HeadG G v h) (ok : HrOk j h) (hr : h.rows ≠ []) (kk : KA K G M t (n + 6) wide h hs Q) : sp__law_row_act K w [.ref t, v, .int wide] H Q E := by
  refine ⟨rfl, ?_⟩
  unfold t__law_row_act
  have fin_in : ∀ x, x ∈ h.fingers ++ (h.plain ++ h.fingers) → NumIn h x := fun x hx => by
    unfold NumIn
    simp only [List.mem_append] at hx ⊢
    rcases hx with z | z | z
    · exact .inr z
    · exact .inl z
    · exact .inr z
  have b1 : ∀ l ∈ plains, 1 ≤ l.length ∧ l.length ≤ 3 := by decide
  have b2 : ∀ l ∈ fingersL, l.length ≤ 2 := by decide
  have b1 := b1 _ ok.plain
  have b2 := b2 _ ok.fingers
  -- fingers + numbers, picked from
  have pf : ∀ {G H : Hp} {n : Nat} {σ : L2.St} {Q : VK}, Gn G M t n H → n ≤ 800000 → HeadG G v h → σ[0]? = some (some (.ref t)) → σ[1]? = some (some v) → (∀ G' H' x, Ex G G' → Gn G' M t (n + 1) H' → NumIn h x → Q (.str x) H') →
      tCall (sp__law_pick K w) [] C8.E0 (tCons (tVar 0) (tCons (tOp (rAddX K) (tDGet (tVar 1) (tC (.str "fingers"))) (tCall (sp__law_numbers K w) [] C8.E0 (tCons (tVar 1) tNil))) tNil)) σ H Q := by
    intro G H n σ Q g hn hd h0 h1 k
    obtain ⟨l1, q1⟩ := hd.fingers g.ex
    refine u_call (u_cons (pv_var h0 _ (u_cons (u_op ?_))))
    refine pv_head g hd (pv_var h1) q1 _ ?_
    refine t_call (pa_cons (pv_var h1) pa_nil) (s_numbers g hd (by omega) fun p hp => ?_)
    obtain ⟨g1, e1, hp1⟩ := g.addG (o := .lst ((h.plain ++ h.fingers).map V.str)) hp
    have gl : (upd G p (.lst ((h.plain ++ h.fingers).map V.str))) l1 = some (.lst (h.fingers.map V.str)) := e1 _ _ (q1.elim fun _ z => z.2.2)
    refine .inr (.inl ⟨l1, p, _, _, rfl, rfl, g1.ex _ _ gl, g1.ex _ _ hp1, by rw [List.length_map, List.length_map, List.length_append]; exact sz_of (by omega), fun p2 hp2 => ?_⟩)
    rw [← List.map_append] 
    obtain ⟨g2, e2, h2⟩ := g1.addG (o := .lst ((h.fingers ++ (h.plain ++ h.fingers)).map V.str)) hp2
    refine pa_nil _ (pick_strs g2 (by omega) h2 (fun z => by have := congrArg List.length z; simp only [List.length_append, List.length_nil] at this; omega) (by simp only [List.length_append]; omega) fun H3 x g3 hx => k _ _ x (e1.trans e2) g3 (fin_in x hx))
  refine u_seq (u_par (u_cons ?_))
  refine pick_row g (by omega) hd ok hr (pv_var rfl) (pv_var rfl) fun H1 a g1 ma => u_cons ?_
  refine pick_number g1 (by omega) hd ok (fun _ => pv_var rfl) (pv_var rfl) fun G2 H2 x e2 g2 mx => ?_
  refine pa_nil _ ⟨_, _, rfl, ?_⟩
  dsimp only
  refine u_seq (u_asg ?_)
  refine pf g2 (by omega) (hd.mono e2) rfl rfl fun G3 H3 p e3 g3 mp => ?_
  dsimp only [gName]
  refine u_seq (u_asg ?_)
  refine t_call (pa_cons (pv_var rfl) (pa_cons pv_c pa_nil)) (s_draw g3 (by omega) (by omega) fun H4 d g4 d0 d1 => ?_)
  have e4 := e2.trans e3
  dsimp only [gName]
  refine u_seq (a_if (pt_test (pv_eqI (pv_var rfl) pv_c)) (fun _ => ?_) fun _ => ?_)
  · exact a_retT (pa_cons pv_c (pa_cons (pv_var rfl) (pa_cons (pv_var rfl) pa_nil))) (by show 3 ≤ 100000; decide) (ka_tup g4 e4 (by omega) kk (.plain (.row a x)) (.cons (.str _) (.cons (.str _) (.cons (.str _) .nil))) ⟨ma, mx⟩)
  refine a_if (pt_test (pv_eqI (pv_var rfl) pv_c)) (fun _ => ?_) fun _ => ?_
  · refine u_ret (u_tup (u_cons (pv_c _ (u_cons ?_))))
    refine pf g4 (by omega) (hd.mono e4) rfl rfl fun G5 H5 y e5 g5 my => u_cons (pv_var rfl _ ?_)
    exact pa_nil _ ⟨sz_of (by show 3 ≤ 100000; decide), ka_tup g5 (e4.trans e5) (by omega) kk (.plain (.len y a)) (.cons (.str _) (.cons (.str _) (.cons (.str _) .nil))) ⟨my, ma⟩⟩
  refine a_if (pt_test (pv_op (pv_var rfl) pv_c pr_lt)) (fun _ => ?_) fun _ => ?_
  · refine u_ret (u_tup (u_cons (pv_c _ (u_cons ?_))))
    refine pick_plain g4 (by omega) (hd.mono e4) ok (pv_var rfl) (pv_var rfl) fun H5 y g5 my => u_cons (pv_var rfl _ (u_cons (pv_var rfl _ ?_)))
    exact pa_nil _ ⟨sz_of (by show 4 ≤ 100000; decide), ka_tup g5 e4 (by omega) kk (.plain (.get y a p)) (.cons (.str _) (.cons (.str _) (.cons (.str _) (.cons (.str _) .nil)))) ⟨List.mem_append_left _ my, ma, mp⟩⟩
  exact a_retT (pa_cons pv_c (pa_cons (pv_var rfl) (pa_cons (pv_var rfl) (pa_cons (pv_var rfl) pa_nil)))) (by show 4 ≤ 100000; decide) (ka_tup g4 e4 (by omega) kk (.plain (.put a p x)) (.cons (.str _) (.cons (.str _) (.cons (.str _) (.cons (.str _) .nil)))) ⟨ma, mp, mx⟩)
theorem s_finger_act (g : Gn G M t n H) (hn : n ≤ 700000) (hd : HeadG G v h) (ok : HrOk j h) (hf : h.fingers ≠ []) (hw : 1 ≤ wide ∧ wide ≤ 31) (kk : KA K G M t (n + 10) wide h hs Q) : sp__law_finger_act K w [.ref t, v, .int wide] H Q E := by
  refine ⟨rfl, ?_⟩
  unfold t__law_finger_act
  have fi : ∀ x ∈ h.fingers, NumIn h x := fun x hx => List.mem_append_right _ hx
  refine u_seq (u_par (u_cons ?_))
  refine pick_finger g (by omega) hd ok hf (pv_var rfl) (pv_var rfl) fun H1 p g1 mp => u_cons ?_
  refine pick_finger g1 (by omega) hd ok hf (pv_var rfl) (pv_var rfl) fun H2 q g2 mq => ?_
  refine pa_nil _ ⟨_, _, rfl, ?_⟩
  dsimp only
  refine u_seq (u_asg ?_)
  refine t_call (pa_cons (pv_var rfl) (pa_cons pv_c pa_nil)) (s_draw g2 (by omega) (by omega) fun H4 d g4 d0 d1 => ?_)
  dsimp only [gName]
  refine u_seq (a_if (pt_test (pv_eqI (pv_var rfl) pv_c)) (fun _ => ?_) fun _ => ?_)
  · refine u_ret (u_tup (u_cons (pv_c _ (u_cons (pv_var rfl _ (u_cons ?_))))))
    refine t_call (pa_cons (pv_var rfl) (pa_cons (pv_var rfl) pa_nil)) (s_a_word g4 (by omega) hw fun G5 H5 i e5 g5 i1 i2 => ?_)
    exact pa_nil _ ⟨sz_of (by show 3 ≤ 100000; decide), ka_tup g5 e5 (by omega) kk (.plain (.set p i)) (.cons (.str _) (.cons (.str _) (.cons (.int _) .nil))) ⟨fi _ mp, i1, i2⟩⟩
  refine a_if (pt_test (pv_eqI (pv_var rfl) pv_c)) (fun _ => ?_) fun _ => ?_
  · refine u_ret (u_tup (u_cons (pv_c _ (u_cons (pv_var rfl _ (u_cons (pv_var rfl _ (u_cons ?_))))))))
    refine pick_finger g4 (by omega) hd ok hf (pv_var rfl) (pv_var rfl) fun H5 z g5 mz => ?_
    exact pa_nil _ ⟨sz_of (by show 4 ≤ 100000; decide), ka_tup g5 (Ex.refl G) (by omega) kk (.plain (.mid p q z)) (.cons (.str _) (.cons (.str _) (.cons (.str _) (.cons (.str _) .nil)))) ⟨fi _ mp, fi _ mq, fi _ mz⟩⟩
  refine u_ret (u_tup (u_cons (pv_c _ (u_cons (pv_var rfl _ (u_cons (pv_var rfl _ (u_cons ?_))))))))
  refine u_call (u_cons (pv_var rfl _ (u_cons (u_lst ?_))))
  refine u_cons (pv_c _ (u_cons (pv_c _ (u_cons ?_))))
  refine pv_op pv_c pv_c pr_sub _ (u_cons (pv_c _ (u_cons ?_)))
  refine t_call (pa_cons (pv_var rfl) (pa_cons (pv_var rfl) pa_nil)) (s_a_word g4 (by omega) hw fun G5 H5 i e5 g5 i1 i2 => ?_)
  refine pa_nil _ ⟨sz_of (by show 5 ≤ 100000; decide), fun p6 hp6 => ?_⟩
  obtain ⟨g6, e6, h6⟩ := g5.addG (o := .lst [.int 1, .int 1, .int (0 - 1), .int 0, .int i]) hp6
  refine pa_nil _ (s_pick g6 (by omega) (sq_of h6) (by simp) (by show 5 < 1000000; decide) fun H7 u g7 hu => ?_)
  have hu : ∃ i : Int, u = .int i ∧ -wide ≤ i ∧ i ≤ wide := by
    have hu : u = .int 1 ∨ u = .int 1 ∨ u = .int (0 - 1) ∨ u = .int 0 ∨ u = .int i := by simpa using hu
    rcases hu with z | z | z | z | z
    · exact ⟨_, z, by omega, by omega⟩
    · exact ⟨_, z, by omega, by omega⟩
    · exact ⟨_, z, by omega, by omega⟩
    · exact ⟨_, z, by omega, by omega⟩
    · exact ⟨_, z, i1, i2⟩
  obtain ⟨i', rfl, j1, j2⟩ := hu
  exact pa_nil _ ⟨sz_of (by show 4 ≤ 100000; decide), ka_tup g7 (e5.trans e6) (by omega) kk (.plain (.sum "add" p q (.inr i'))) (.cons (.str _) (.cons (.str _) (.cons (.str _) (.cons (.int _) .nil)))) ⟨by decide, fi _ mp, fi _ mq, ⟨j1, j2⟩, fun _ => ⟨_, rfl⟩⟩⟩
end
end B72


set_option Elab.async false
set_option linter.all false
set_option maxRecDepth 100000
set_option maxHeartbeats 400000
/-! C4: calls, loops, acts drawn. -/
namespace B72
open PySem L2 Evl R72
section
variable {K : PySem.W.Frag} {w : World} {G G' H H' : Hp} {M : List (Addr × HO)} {t : Addr} {n : Nat} {Q : VK} {E : XK} {σ : L2.St} {D : Ends} {h o : Hr} {hs : List Hr} {v u : V} {j jo : Nat} {wide : Int}
theorem u_lc {wi : TI} {g : TG} {tt : TT} {te : TE} {vs : List Nat} (k : wi σ H fun J H1 => ∀ D, H1 D = none → ∃ W : Nat → Nat → Hp → Prop, (∃ m, W 0 m (upd H1 D (.lst []))) ∧ ∀ i m H, W i m H →
  (J.stop i H ∧ Q (.ref D) H) ∨ (J.go i H ∧ ∃ Nx : Hp → Prop, (∀ H', Nx H' → ∃ m', m' < m ∧ W (i + 1) m' H') ∧ ∀ x H', J.yld i H x H' → g x (wipe σ vs) H' fun σ2 H2 => wipe σ2 vs = wipe σ vs ∧ tt σ2 H2 fun b H3 =>
    if b = true then te σ2 H3 fun y H4 => ∃ acc, H4 D = some (.lst acc) ∧ acc.length < sizeLine ∧ Nx (upd H4 D (.lst (acc ++ [y]))) else Nx H3)) : tLc wi g tt te vs σ H Q := k
theorem u_next (k : D.nx σ H) : tNext D σ H := k
theorem u_iseq {tl : TE} {R : It → Hp → Prop} (k : tl σ H fun x H1 => ∃ a, x = .ref a ∧ ((∃ xs, SqL K H1 a xs ∧ R (Itl K a) H1) ∨ (∃ xs, SqT K H1 a xs ∧ R (Itt K a) H1))) : iSeqX K tl σ H R := k
theorem Gn.sub {M' : List (Addr × HO)} (g : Gn G M t n H) (p : M'.Sublist M) : Gn G M' t n H := by
  obtain ⟨a, b, c, h, r⟩ := g
  exact ⟨a, b, c, h.sub (List.Sublist.cons₂ _ p), r⟩
theorem inV_str {x : Str} {ys : List Str} (h : x ∈ ys) : inV (.str x) (ys.map V.str) = true := by
  unfold inV
  rw [List.any_eq_true]
  exact ⟨.str x, List.mem_map_of_mem h, by simp [eqV]⟩
theorem flat_strs (ys : List Str) : (ys.map V.str).all flatV = true := by
  rw [List.all_eq_true]
  intro x hx
  obtain ⟨y, _, rfl⟩ := List.mem_map.mp hx
  rfl
theorem HeadG.kind (a : HeadG G u o) (e : Ex G H) : ∃ a', u = .ref a' ∧ ∀ kd ys, (kd, ys) ∈ [(("plain" : Str), o.plain), ("fingers", o.fingers), ("rows", o.rows)] → ∃ l, DGet H a' (.str kd) (some (.ref l)) ∧ G l = some (.lst (ys.map V.str)) := by
  obtain ⟨a, lp, lf, lr, lq, e0, e1, e2, e3, e4, e5⟩ := a.ex
  refine ⟨a, e0, fun kd ys hk => ?_⟩
  simp only [List.mem_cons, List.mem_nil_iff, or_false, Prod.mk.injEq] at hk
  rcases hk with ⟨z1, z2⟩ | ⟨z1, z2⟩ | ⟨z1, z2⟩ <;> subst z1 <;> subst z2
  · exact ⟨lp, DGet.k (k := Sum.inr "plain") (e _ _ e1), e2⟩
  · exact ⟨lf, DGet.k (k := Sum.inr "fingers") (e _ _ e1), e3⟩
  · exact ⟨lr, DGet.k (k := Sum.inr "rows") (e _ _ e1), e4⟩
theorem atI_zero {α : Type} (x : α) (xs : List α) : atI (x :: xs) 0 = some x := by
  unfold atI ixN
  rw [if_pos (by decide), if_pos (by simp)]
  rfl
theorem s_kind (g : Gn G M t n H) (hu : HeadG G u o) {x : Str} (hx : x ∈ o.plain ++ o.fingers ++ o.rows) (k : ∀ H' kd, Ex H H' → kd ∈ ([("plain" : Str), "fingers", "rows"] : List Str) → Q (.str kd) H') : sp__law_kind K w [u, .str x] H Q E := by
  refine ⟨rfl, ?_⟩
  unfold t__law_kind
  obtain ⟨a', rfl, hk⟩ := hu.kind (Ex.refl G)
  refine u_ret (u_op (u_lc (u_iseq ?_)))
  refine t_lst (pa_cons pv_c (pa_cons pv_c (pa_cons pv_c pa_nil))) (by show 3 ≤ 100000; decide) fun p hp => ⟨p, rfl, .inl ⟨_, sq_of upd_same, fun Dl hD => ?_⟩⟩
  have e1 := Ex.new (o := HO.lst [.str "plain", .str "fingers", .str "rows"]) hp
  generalize hH1 : upd H p (HO.lst [.str "plain", .str "fingers", .str "rows"]) = H1 at e1 hD ⊢
  have hp1 : H1 p = some (.lst [.str "plain", .str "fingers", .str "rows"]) := by rw [← hH1]; exact upd_same
  have g1 : Ex G H1 := g.ex.trans e1
  -- one turn
  have turn : ∀ (kd : Str) (ys : List Str) (H' : Hp) (acc : List Str) (P : Hp → Prop), (kd, ys) ∈ [(("plain" : Str), o.plain), ("fingers", o.fingers), ("rows", o.rows)] → Ex H1 H' → H' Dl = some (.lst (acc.map V.str)) → acc.length ≤ 10 →
      (∀ H2 acc2, Ex H1 H2 → H2 Dl = some (.lst (acc2.map V.str)) → (acc2 = acc ∨ acc2 = acc ++ [kd]) → (x ∈ ys → acc2 = acc ++ [kd]) → P H2) →
      gName 2 (.str kd) (wipe (start N__law_kind [V.ref a', V.str x]) [2]) H' fun σ2 H2 => wipe σ2 [2] = wipe (start N__law_kind [V.ref a', V.str x]) [2] ∧ tTest (tOp (rInX K false) (tVar 1) (tDGet (tVar 0) (tVar 2))) σ2 H2 fun b H3 =>
        if b = true then tVar 2 σ2 H3 fun y H4 => ∃ acc, H4 Dl = some (.lst acc) ∧ acc.length < sizeLine ∧ P (upd H4 Dl (.lst (acc ++ [y]))) else P H3 := by
    intro kd ys H' acc P hm e' ha hl hP
    obtain ⟨l, d, gl⟩ := hk kd ys hm
    refine ⟨rfl, ?_⟩
    have d' : DGet H' a' (.str kd) (some (.ref l)) := by
      rcases d with ⟨kvs, q, r, q1, q2⟩ | ⟨kvs, q, b, r, q1, q2, q3⟩
      · exact .inl ⟨kvs, q, ex_rd (g1.trans e') r, q1, q2⟩
      · exact .inr ⟨kvs, q, b, ex_rd (g1.trans e') r, q1, (g1.trans e') _ _ q2, q3⟩
    refine u_test (pv_op (pv_var rfl) (pv_get (pv_var rfl) (pv_var rfl) d') (fun Q' q => .inl ⟨l, _, rfl, .inl (sq_of ((g1.trans e') _ _ gl)), rfl, flat_strs ys, q⟩) _ ⟨_, rfl, ?_⟩)
    show if inV (.str x) (ys.map V.str) = true then _ else _
    by_cases hi : inV (.str x) (ys.map V.str) = true
    · rw [if_pos hi]
      refine pv_var rfl _ ⟨_, ha, by rw [List.length_map]; exact sz_lt (by omega), ?_⟩
      refine hP _ (acc ++ [kd]) (e'.mut hD) ?_ (.inr rfl) fun _ => rfl
      rw [upd_same, List.map_append]; rfl
    · rw [if_neg hi]
      exact hP H' acc e' ha (.inl rfl) fun z => absurd (inV_str z) hi
  refine lc_list (fun i H' => ∃ acc : List Str, Ex H1 H' ∧ H' Dl = some (.lst (acc.map V.str)) ∧ acc.length ≤ i ∧ (∀ kd ∈ acc, kd ∈ ([("plain" : Str), "fingers", "rows"] : List Str)) ∧ ((1 ≤ i ∧ x ∈ o.plain) ∨ (2 ≤ i ∧ x ∈ o.fingers) ∨ (3 ≤ i ∧ x ∈ o.rows) → acc ≠ []))
    ⟨[], Ex.new hD, upd_same, Nat.le_refl _, fun _ z => (by cases z), fun z => by omega⟩ (fun i H' _ q => q.elim fun _ q => sq_of (q.1 _ _ hp1)) (fun i y H' hy q => ?_) fun H' q => ?_
  · obtain ⟨acc, q1, q2, q3, q4, q5⟩ := q
    have hi : i < 3 := by have := (List.getElem?_eq_some_iff.mp hy).1; simpa using this
    obtain ⟨kd, ys, hm, hi2, rfl⟩ : ∃ kd ys, (kd, ys) ∈ [(("plain" : Str), o.plain), ("fingers", o.fingers), ("rows", o.rows)] ∧ (i = 0 ∧ ys = o.plain ∨ i = 1 ∧ ys = o.fingers ∨ i = 2 ∧ ys = o.rows) ∧ y = .str kd := by
      have hi3 : i = 0 ∨ i = 1 ∨ i = 2 := by omega
      rcases hi3 with z | z | z <;> subst z
      · exact ⟨"plain", o.plain, by simp, .inl ⟨rfl, rfl⟩, by simpa using hy.symm⟩
      · exact ⟨"fingers", o.fingers, by simp, .inr (.inl ⟨rfl, rfl⟩), by simpa using hy.symm⟩
      · exact ⟨"rows", o.rows, by simp, .inr (.inr ⟨rfl, rfl⟩), by simpa using hy.symm⟩
    refine turn kd ys H' acc _ hm q1 q2 (by omega) fun H2 acc2 e2 h2 h3 h4 => ⟨acc2, e2, h2, ?_, ?_, ?_⟩
    · rcases h3 with z | z <;> rw [z]
      · omega
      · rw [List.length_append]; simp only [List.length_singleton]; omega
    · intro kd2 hkd
      rcases h3 with z | z
      · exact q4 _ (z ▸ hkd)
      · rw [z] at hkd
        rcases List.mem_append.mp hkd with r | r
        · exact q4 _ r
        · rw [List.mem_singleton.mp r]
          simp only [List.mem_cons, List.mem_nil_iff, or_false, Prod.mk.injEq] at hm ⊢
          rcases hm with ⟨z, _⟩ | ⟨z, _⟩ | ⟨z, _⟩
          · exact .inl z
          · exact .inr (.inl z)
          · exact .inr (.inr z)
    · intro hz
      by_cases hx' : x ∈ ys
      · rw [h4 hx']; simp
      · have : acc ≠ [] := q5 (by
          rcases hi2 with ⟨i0, z⟩ | ⟨i0, z⟩ | ⟨i0, z⟩ <;> rw [z] at hx' <;> rcases hz with ⟨a, b⟩ | ⟨a, b⟩ | ⟨a, b⟩
          · exact absurd b hx'
          · omega
          · omega
          · exact .inl ⟨by omega, b⟩
          · exact absurd b hx'
          · omega
          · exact .inl ⟨by omega, b⟩
          · exact .inr (.inl ⟨by omega, b⟩)
          · exact absurd b hx')
        rcases h3 with z | z <;> rw [z]
        · exact this
        · simp
  · obtain ⟨acc, q1, q2, q3, q4, q5⟩ := q
    have hne : acc ≠ [] := q5 (by
      simp only [List.mem_append] at hx
      rcases hx with (z | z) | z
      · exact .inl ⟨by decide, z⟩
      · exact .inr (.inl ⟨by decide, z⟩)
      · exact .inr (.inr ⟨by decide, z⟩))
    obtain ⟨kd, r, hacc⟩ := List.exists_cons_of_ne_nil hne
    rw [hacc] at q2 q4
    refine pv_c _ (pr_ixl (sq_of q2) (v := .str kd) (atI_zero _ _) _ (k H' kd (e1.trans q1) (q4 kd (List.mem_cons_self ..))))
theorem s_law_call (g : Gn G M t n H) (hn : n ≤ 700000) (hd : HeadG G v h) (ok : HrOk j h) (hu : HeadG G u o) (oko : HrOk jo o) (ho : o ∈ hs) (kk : KA K G M t (n + 10) wide h hs Q) : sp__law_call K w [.ref t, v, u] H Q E := by
  refine ⟨rfl, ?_⟩
  unfold t__law_call
  have b1 : ∀ l ∈ plains, 1 ≤ l.length ∧ l.length ≤ 3 := by decide
  have b2 : ∀ l ∈ fingersL, l.length ≤ 2 := by decide
  have b3 : ∀ l ∈ rowsL, l.length ≤ 2 := by decide
  have b1 := b1 _ ok.plain
  have b2 := b2 _ ok.fingers
  have b3 := b3 _ ok.rows
  refine u_seq (a_asgL pa_nil (by decide) fun l hl => ?_)
  have g0 := g.new (o := .lst []) hl
  have gex : Ex G (upd H l (.lst [])) := g0.ex
  dsimp only [gName]
  obtain ⟨lq, q1⟩ := hu.params gex
  have gq : G lq = some (.lst (o.params.map V.str)) := q1.elim fun _ z => z.2.2
  refine u_seq (f_L (a := lq) (xs := o.params.map V.str) (pv_head g0 hu (pv_var rfl) q1) (sq_of (gex _ _ gq))
    (fun i σ' H' => (∃ o4 o5 o6, σ' = [some (.ref t), some v, some u, some (.ref l), o4, o5, o6]) ∧ ∃ G' gs, Ex G G' ∧ Gn G' (M ++ [(l, .lst (gs.map V.str))]) t (n + i) H' ∧ gs.length = i ∧ ∀ x ∈ gs, NumIn h x ∨ x ∈ h.rows)
    ⟨⟨_, _, _, rfl⟩, G, [], Ex.refl G, g0, rfl, fun _ z => by cases z⟩ (fun i σ' H' _ q => ?_) (fun i x σ' H' hx q => ?_) fun σ' H' q => ?_)
  · obtain ⟨_, G', gs, e, g', _⟩ := q
    exact sq_of (g'.ex _ _ (e _ _ gq))
  · obtain ⟨⟨o4, o5, o6, rfl⟩, G', gs, e, g', hgl, hgs⟩ := q
    rw [List.getElem?_map] at hx
    obtain ⟨x, hpx, rfl⟩ := Option.map_eq_some_iff.mp hx
    have hi : i < o.params.length := (List.getElem?_eq_some_iff.mp hpx).1
    have hpl := oko.plen
    have hxp : x ∈ o.params := List.mem_of_getElem? hpx
    dsimp only [gName]
    refine u_seq (u_asg (t_call (pa_cons (pv_var rfl) (pa_cons (pv_var rfl) pa_nil)) (s_kind g' (hu.mono e) (oko.pin x hxp) fun H2 kd e2 hkd => ?_)))
    have g2 := g'.grow e2
    dsimp only [gName]
    obtain ⟨a', rfl, hk⟩ := (hd.mono e).kind g2.ex
    obtain ⟨ys, hm, hys⟩ : ∃ ys, (kd, ys) ∈ [(("plain" : Str), h.plain), ("fingers", h.fingers), ("rows", h.rows)] ∧ (∀ z ∈ ys, NumIn h z ∨ z ∈ h.rows) := by
      simp only [List.mem_cons, List.mem_nil_iff, or_false] at hkd
      rcases hkd with z | z | z <;> subst z
      · exact ⟨h.plain, by simp, fun z hz => .inl (List.mem_append_left _ hz)⟩
      · exact ⟨h.fingers, by simp, fun z hz => .inl (List.mem_append_right _ hz)⟩
      · exact ⟨h.rows, by simp, fun z hz => .inr hz⟩
    obtain ⟨lk, d, glk⟩ := hk kd ys hm
    have hyl : ys.length ≤ 3 := by
      simp only [List.mem_cons, List.mem_nil_iff, or_false, Prod.mk.injEq] at hm
      rcases hm with ⟨_, z⟩ | ⟨_, z⟩ | ⟨_, z⟩ <;> rw [z] <;> omega
    have hyU : ∀ z ∈ ys, z ∈ U7 := by
      simp only [List.mem_cons, List.mem_nil_iff, or_false, Prod.mk.injEq] at hm
      rcases hm with ⟨_, z⟩ | ⟨_, z⟩ | ⟨_, z⟩ <;> rw [z]
      · exact pl_in ok.plain
      · exact fi_in ok.fingers
      · exact ro_in ok.rows
    refine u_seq (u_asg (u_op (u_lst (u_cons (pv_get (pv_var rfl) (pv_var rfl) d _ (u_cons ?_))))))
    refine t_call (pa_cons (pv_var rfl) pa_nil) (s_numbers g2 (hd.mono e) (by omega) fun p hp => ?_)
    obtain ⟨g3, e3, h3⟩ := g2.addG (o := .lst ((h.plain ++ h.fingers).map V.str)) hp
    refine pa_nil _ ⟨sz_of (by show 2 ≤ 100000; decide), fun p2 hp2 => ?_⟩
    obtain ⟨g4, e4, h4⟩ := g3.addG (o := .lst [.ref lk, .ref p]) hp2
    have e14 := (e.trans e3).trans e4
    have glk4 := e4 _ _ (e3 _ _ glk)
    have h34 := e4 _ _ h3
    -- the list that is picked from
    have some_ : ∃ (ls : Addr) (zs : List Str), atI [V.ref lk, V.ref p] (if decide (kd = "plain") = true then 1 else 0) = some (.ref ls) ∧ (upd (upd G' p (.lst ((h.plain ++ h.fingers).map V.str))) p2 (.lst [.ref lk, .ref p])) ls = some (.lst (zs.map V.str)) ∧ zs.length ≤ 5 ∧ (∀ z ∈ zs, z ∈ U7) ∧ ∀ z ∈ zs, NumIn h z ∨ z ∈ h.rows := by
      by_cases hkp : kd = "plain"
      · rw [if_pos (decide_eq_true hkp)]
        refine ⟨p, h.plain ++ h.fingers, rfl, h34, by rw [List.length_append]; omega, fun z hz => ?_, fun z hz => .inl hz⟩
        rcases List.mem_append.mp hz with r | r
        · exact pl_in ok.plain z r
        · exact fi_in ok.fingers z r
      · rw [if_neg (by simpa using hkp)]
        exact ⟨lk, ys, rfl, glk4, by omega, hyU, hys⟩
    obtain ⟨ls, zs, s1, s2, s3, s4, s5⟩ := some_
    refine pv_eqS (pv_var rfl) pv_c _ (.inr ⟨_, rfl, pr_ixl (sq_of (g4.ex _ _ h4)) s1 _ ?_⟩)
    dsimp only [gName]
    have sh : SeqAt.shaped (.list (zs.map PyData.str)) = true := strsU zs fun z hz => okU z (s4 z hz)
    have dz : ∀ {H'}, Ex _ H' → Dp K H' (.ref ls) (.list (zs.map PyData.str)) := fun e => .lst (sq_of (e _ _ s2)) (dpAll_strs zs)
    refine u_seq (u_if (u_test ?_))
    refine t_eqNil zs.isEmpty (by cases zs <;> rfl) (pv_var rfl) (dz g4.ex) sh fun H5 e5 => ⟨_, rfl, ?_⟩
    have g5 := g4.grow e5
    cases hz : zs with
    | nil =>
      refine u_true ?_
      obtain ⟨lpl, q2⟩ := (hd.mono e14).plain g5.ex
      have glp := q2.elim fun _ z => z.2.2
      obtain ⟨x0, r0, hx0⟩ := List.exists_cons_of_ne_nil (l := h.plain) (fun z => by rw [z] at b1; simp at b1)
      refine a_retT (pa_cons pv_c (pa_cons (pv_op (pv_head g5 (hd.mono e14) (pv_var rfl) q2) pv_c (pr_ixl (sq_of (g5.ex _ _ glp)) (by rw [hx0]; exact atI_zero _ _))) pa_nil)) (by show 2 ≤ 100000; decide) ?_
      exact ka_tup (g5.sub (List.sublist_append_left _ _)) e14 (by omega) kk (.plain (.tell x0)) (.cons (.str _) (.cons (.str _) .nil)) (List.mem_append_left _ (by rw [hx0]; exact List.mem_cons_self ..))
    | cons z0 zr =>
      refine u_false (u_next ?_)
      dsimp only
      refine u_drop (u_bm ?_)
      refine pv_var (v := .ref l) rfl _ ?_
      refine ⟨.inl ⟨rfl, _, sq_of (g5.at (o := .lst (gs.map V.str)) (by simp))⟩, ?_⟩
      refine u_cons (t_call (pa_cons (pv_var rfl) (pa_cons (pv_var rfl) pa_nil)) (pick_strs g5 (by omega) s2 (by rw [hz]; simp) (by omega) fun H6 y g6 hy => ?_))
      refine pa_nil _ ⟨l, _, .str y, rfl, rfl, g6.at (o := .lst (gs.map V.str)) (by simp), by rw [List.length_map]; exact sz_lt (by omega), ⟨_, _, _, rfl⟩, _, gs ++ [y], e14, ?_, by rw [List.length_append, hgl]; rfl, fun z hz => ?_⟩
      · have g7 := g6.chg (o' := .lst (gs.map V.str ++ [.str y])) M (c2 := []) rfl
        have g8 := g7.up (m := n + (i + 1)) (by omega)
        have e9 : gs.map V.str ++ [.str y] = (gs ++ [y]).map V.str := by simp
        rw [e9] at g8
        rw [e9]
        exact g8
      · rcases List.mem_append.mp hz with r | r
        · exact hgs z r
        · rw [List.mem_singleton.mp r]; exact s5 y hy
  · obtain ⟨⟨o4, o5, o6, rfl⟩, G', gs, e, g', hgl, hgs⟩ := q
    have hpl := oko.plen
    have hgl : gs.length = o.params.length := by rw [hgl, List.length_map]
    dsimp only
    refine u_ret (u_tup (u_cons (pv_c _ (u_cons ?_))))
    refine pick_plain g' (by rw [List.length_map]; omega) (hd.mono e) ok (pv_var rfl) (pv_var rfl) fun H2 x g2 hx => u_cons ?_
    obtain ⟨a', rfl, dn⟩ := (hu.mono e).name g2.ex
    refine pv_get (pv_var rfl) pv_c dn _ (u_cons ?_)
    refine pv_var rfl _ ⟨l, _, rfl, .inl ⟨sq_of (g2.at (o := .lst (gs.map V.str)) (by simp)), fun p hp => ?_⟩⟩
    obtain ⟨g3, e3, h3⟩ := g2.addG (o := .tup (gs.map V.str)) hp
    refine pa_nil _ ⟨sz_of (by show 4 ≤ 100000; decide), ?_⟩
    refine ka_tup (g3.sub (List.sublist_append_left _ _)) (e.trans e3) (by rw [List.length_map]; omega) kk (.call x o.name gs) (.cons (.str _) (.cons (.str _) (.cons (.str _) (.cons (.tup (st_of h3) (dpAll_strs gs)) .nil)))) ⟨List.mem_append_left _ hx, ⟨o, ho, rfl, hgl⟩, hgs, by omega⟩
end
end B72


set_option Elab.async false
set_option linter.all false
set_option maxRecDepth 100000
set_option maxHeartbeats 400000
/-! C5: any act, a loop over a row. -/
namespace B72
open PySem L2 Evl R72
section
variable {K : PySem.W.Frag} {w : World} {G G' H H' : Hp} {M : List (Addr × HO)} {t : Addr} {n : Nat} {Q : VK} {E : XK} {σ : L2.St} {D : Ends} {h o : Hr} {hs : List Hr} {v u : V} {j jo : Nat} {wide : Int}
theorem a_andNe {t1 : TT} {tl : TE} {A : TS} {b1 : Bool} {a : Addr} {xs : List Str} (h1 : Pt t1 σ H b1) (hl : Pv tl σ H (.ref a)) (ga : H a = some (.lst (xs.map V.str))) (hU : ∀ x ∈ xs, x ∈ U7) (kA : xs ≠ [] → ∀ H1, Ex H H1 → A D σ H1) (kB : ∀ H1, Ex H H1 → D.nx σ H1) :
    tIfS (tAnd t1 (tTest (tOp (rNeX K) tl (tLst tNil)))) A tNext D σ H := by
  refine h1 _ ?_
  cases b1 with
  | false => exact u_false (u_false (kB H (Ex.refl H)))
  | true =>
    refine u_true ?_
    refine u_test ?_
    refine t_neNil (!xs.isEmpty) (by cases xs <;> rfl) hl (.lst (sq_of ga) (dpAll_strs xs)) (strsU xs fun z hz => okU z (hU z hz)) fun H1 e1 => ⟨_, rfl, ?_⟩
    cases hx : xs with
    | nil => exact u_false (kB H1 e1)
    | cons x r => exact u_true (kA (by rw [hx]; simp) H1 e1)
theorem paired_mem {α β : Type} {R : α → β → Prop} {xs : List α} {ys : List β} (p : Paired R xs ys) {x : α} (hx : x ∈ xs) : ∃ y ∈ ys, R x y := by
  induction p with
  | nil => cases hx
  | cons a _ ih =>
    rcases List.mem_cons.mp hx with z | z
    · exact ⟨_, List.mem_cons_self .., z ▸ a⟩
    · obtain ⟨y, hy, r⟩ := ih z
      exact ⟨y, List.mem_cons_of_mem _ hy, r⟩
/-- all heads, as they lie -/
structure HsG (K : PySem.W.Frag) (G : Hp) (hl : Addr) (hvs : List V) (hs : List Hr) : Prop where
  l : SqL K G hl hvs
  p : Paired (HeadG G) hvs hs
  ok : ∀ o ∈ hs, ∃ jo, HrOk jo o
  ne : hs ≠ []
  len : hs.length ≤ 100
theorem HsG.mono {hl : Addr} {hvs : List V} (a : HsG K G hl hvs hs) (e : Ex G G') : HsG K G' hl hvs hs := ⟨ex_l e a.l, Paired.imp (fun _ _ q => q.mono e) a.p, a.ok, a.ne, a.len⟩
theorem side_d (z : Side) : Dp K G z.v z.d := by
  cases z with
  | inl x => exact .str x
  | inr i => exact .int i
theorem in_tup {te : TE} {d : Int} {b : Bool} {H : Hp} (h : Pv te σ H (.int d)) {tl : TA} {vs : List V} (ht : Pa tl σ H vs) (hf : vs.all flatV = true) (hl : vs.length ≤ 100) (hb : inV (.int d) vs = b) {Q : VK} (k : ∀ H1, Ex H H1 → Q (.bl b) H1) : tOp (rInX K false) te (tTup tl) σ H Q :=
  h _ (t_tup ht (by omega) fun p hp => .inl ⟨p, vs, rfl, .inr (st_of upd_same), rfl, hf, by show Q (.bl (inV (.int d) vs)) _; rw [hb]; exact k _ (Ex.new hp)⟩)
theorem s_act {hl : Addr} {hvs : List V} (g : Gn G M t n H) (hn : n ≤ 600000) (hd : HeadG G v h) (ok : HrOk j h) (hG : HsG K G hl hvs hs) (hw : 1 ≤ wide ∧ wide ≤ 31) (kk : KA K G M t (n + 30) wide h hs Q) : sp__law_act K w [.ref t, v, .ref hl, .int wide] H Q E := by
  refine ⟨rfl, ?_⟩
  unfold t__law_act
  have pn : ∀ {x}, x ∈ h.plain → NumIn h x := fun hx => List.mem_append_left _ hx
  refine u_seq (u_par3 (u_cons ?_))
  refine pick_plain g (by omega) hd ok (pv_var rfl) (pv_var rfl) fun H1 x g1 mx => u_cons ?_
  refine pick_plain g1 (by omega) hd ok (pv_var rfl) (pv_var rfl) fun H2 y g2 my => u_cons ?_
  refine pick_plain g2 (by omega) hd ok (pv_var rfl) (pv_var rfl) fun H3 z g3 mz => ?_
  refine pa_nil _ ⟨_, _, _, rfl, ?_⟩
  dsimp only
  refine u_seq (u_asg ?_)
  refine t_call (pa_cons (pv_var rfl) (pa_cons pv_c pa_nil)) (s_draw g3 (by omega) (by omega) fun H4 d g4 d0 d1 => ?_)
  dsimp only [gName]
  -- rows
  obtain ⟨lr, qr⟩ := hd.rows g4.ex
  refine u_seq (a_andNe (pt_test (pv_op (pv_var rfl) pv_c pr_lt)) (pv_head g4 hd (pv_var rfl) qr) (g4.ex _ _ (qr.elim fun _ z => z.2.2)) (ro_in ok.rows) (fun hne H5 e5 => ?_) fun H5 e5 => ?_)
  · refine u_ret (t_call (pa_cons (pv_var rfl) (pa_cons (pv_var rfl) (pa_cons (pv_var rfl) pa_nil))) (s_row_act (hs := hs) (g4.grow e5) (by omega) hd ok hne fun G' H' v a e g' dv oka => kk G' H' v a e (g'.up (by omega)) dv oka))
  have g5 := g4.grow e5
  dsimp only
  obtain ⟨lf, qf⟩ := hd.fingers g5.ex
  refine u_seq (a_andNe (pt_test (pv_op (pv_var rfl) pv_c pr_lt)) (pv_head g5 hd (pv_var rfl) qf) (g5.ex _ _ (qf.elim fun _ z => z.2.2)) (fi_in ok.fingers) (fun hne H6 e6 => ?_) fun H6 e6 => ?_)
  · refine u_ret (t_call (pa_cons (pv_var rfl) (pa_cons (pv_var rfl) (pa_cons (pv_var rfl) pa_nil))) (s_finger_act (hs := hs) (g5.grow e6) (by omega) hd ok hne hw fun G' H' v a e g' dv oka => kk G' H' v a e (g'.up (by omega)) dv oka))
  have g6 := g5.grow e6
  dsimp only
  -- sums
  refine u_seq (a_if (pt_test (pv_op (pv_var rfl) pv_c pr_lt)) (fun _ => ?_) fun _ => ?_)
  · refine u_ret (u_tup (u_cons (u_call (u_cons (pv_var rfl _ (u_cons ?_))))))
    refine t_lst (pa_cons pv_c (pa_cons pv_c (pa_cons pv_c (pa_cons pv_c (pa_cons pv_c pa_nil))))) (by show 5 ≤ 100000; decide) fun p hp => ?_
    obtain ⟨g7, e7, h7⟩ := g6.addG (o := .lst ([("plus" : Str), "minus", "times", "over", "rest"].map V.str)) hp
    refine pa_nil _ (pick_strs g7 (by omega) h7 (by simp) (by show 5 < 1000; decide) fun H8 kd g8 hk => u_cons (pv_var rfl _ (u_cons (pv_var rfl _ (u_cons (pv_var rfl _ ?_))))))
    have hk : (kd = "plus" ∨ kd = "minus" ∨ kd = "times") ∨ (kd = "over" ∨ kd = "rest") := by
      simp only [List.mem_cons, List.mem_nil_iff, or_false] at hk
      rcases hk with z | z | z | z | z
      · exact .inl (.inl z)
      · exact .inl (.inr (.inl z))
      · exact .inl (.inr (.inr z))
      · exact .inr (.inl z)
      · exact .inr (.inr z)
    rcases hk with hk | hk
    · refine pa_nil _ ⟨sz_of (by show 4 ≤ 100000; decide), ka_tup g8 e7 (by omega) kk (.plain (.sum kd x y (.inl z))) (.cons (.str _) (.cons (.str _) (.cons (.str _) (.cons (.str _) .nil)))) ⟨?_, pn mx, pn my, pn mz, fun q => ?_⟩⟩
      · rcases hk with r | r | r <;> rw [r] <;> simp [sumKs]
      · exfalso
        rw [q] at hk
        revert hk
        decide
    · exact pa_nil _ ⟨sz_of (by show 4 ≤ 100000; decide), ka_tup g8 e7 (by omega) kk (.plain (.over kd x y z)) (.cons (.str _) (.cons (.str _) (.cons (.str _) (.cons (.str _) .nil)))) ⟨hk, pn mx, pn my, pn mz⟩⟩
  refine u_seq (a_if (pt_test (pv_op (pv_var rfl) pv_c pr_lt)) (fun _ => ?_) fun _ => ?_)
  · refine u_ret (u_tup (u_cons (pv_c _ (u_cons (pv_var rfl _ (u_cons ?_))))))
    refine pick_number g6 (by omega) hd ok (fun _ => pv_var rfl) (pv_var rfl) fun G7 H7 y2 e7 g7 m7 => u_cons ?_
    refine t_call (pa_cons (pv_var rfl) (pa_cons (pv_var rfl) pa_nil)) (s_a_word g7 (by omega) hw fun G8 H8 i e8 g8 i1 i2 => ?_)
    exact pa_nil _ ⟨sz_of (by show 4 ≤ 100000; decide), ka_tup g8 (e7.trans e8) (by omega) kk (.plain (.sum "add" x y2 (.inr i))) (.cons (.str _) (.cons (.str _) (.cons (.str _) (.cons (.int _) .nil)))) ⟨by simp [sumKs], pn mx, m7, ⟨i1, i2⟩, fun _ => ⟨_, rfl⟩⟩⟩
  refine u_seq (a_if (pt_test (pv_op (pv_var rfl) pv_c pr_lt)) (fun _ => ?_) fun _ => ?_)
  · refine u_seq (u_par (u_cons ?_))
    refine t_call (pa_cons (pv_var rfl) (pa_cons (pv_var rfl) pa_nil)) (s_a_word g6 (by omega) hw fun G7 H7 i e7 g7 i1 i2 => u_cons ?_)
    refine t_call (pa_cons (pv_var rfl) (pa_cons (pv_var rfl) pa_nil)) (s_a_word g7 (by omega) hw fun G8 H8 i' e8 g8 i3 i4 => ?_)
    refine pa_nil _ ⟨_, _, rfl, ?_⟩
    dsimp only
    refine a_retT (pa_cons pv_c (pa_cons (pv_var rfl) (pa_cons (pv_min2 (pv_var rfl) (pv_var rfl)) (pa_cons (pv_max2 (pv_var rfl) (pv_var rfl)) pa_nil)))) (by show 4 ≤ 100000; decide) ?_
    refine ka_tup g8 (e7.trans e8) (by omega) kk (.plain (.ask x (if i' < i then i' else i) (if i' > i then i' else i))) (.cons (.str _) (.cons (.str _) (.cons (.int _) (.cons (.int _) .nil)))) ⟨pn mx, ?_, ?_, ?_⟩
    · split <;> omega
    · split <;> split <;> omega
    · split <;> omega
  refine u_seq (a_if (pt_test (pv_op (pv_var rfl) pv_c pr_lt)) (fun _ => ?_) fun _ => ?_)
  · refine u_ret (u_op (u_op (t_tup (pa_cons pv_c pa_nil) (by show 1 ≤ 100000; decide) fun p7 hp7 => ?_)))
    obtain ⟨g7, e7, h7⟩ := g6.addG (o := .tup [.str "if"]) hp7
    refine t_call (pa_cons (pv_var rfl) (pa_cons (pv_var rfl) (pa_cons (pv_var rfl) pa_nil))) (s_test g7 (by omega) (hd.mono e7) ok hw fun G8 H8 p8 a s b e8 g8 ma mb ms h8 => ?_)
    refine .inr (.inr ⟨p7, p8, _, _, rfl, rfl, st_of (g8.ex _ _ (e8 _ _ h7)), st_of (g8.ex _ _ h8), sz_of (by show 4 ≤ 100000; decide), fun z => by simp at z, fun _ z => by simp at z, fun _ _ p9 hp9 => ?_⟩)
    obtain ⟨g9, e9, h9⟩ := g8.addG (o := .tup ([.str "if"] ++ [a.v, .str s, b.v])) hp9
    refine u_tup (u_cons (t_call (pa_cons (pv_var rfl) (pa_cons pv_c pa_nil)) (s_draw g9 (by omega) (by omega) fun H10 lb g10 l0 l1 => ?_)))
    refine pa_nil _ ⟨sz_of (by show 1 ≤ 100000; decide), fun p11 hp11 => ?_⟩
    obtain ⟨g11, e11, h11⟩ := g10.addG (o := .tup [.int lb]) hp11
    refine .inr (.inr ⟨p9, p11, _, _, rfl, rfl, st_of (g11.ex _ _ (e11 _ _ h9)), st_of (g11.ex _ _ h11), sz_of (by show 5 ≤ 100000; decide), fun z => by simp at z, fun _ z => by simp at z, fun _ _ => ?_⟩)
    exact ka_tup g11 (((e7.trans e8).trans e9).trans e11) (by omega) kk (.plain (.iff a s b lb)) (.cons (.str _) (.cons (side_d a) (.cons (.str _) (.cons (side_d b) (.cons (.int _) .nil))))) ⟨by cases a <;> exact ma, ms, by cases b <;> exact mb, by unfold Raw; omega⟩
  refine u_seq (a_if (pt_test (pv_eqI (pv_var rfl) pv_c)) (fun _ => ?_) fun _ => ?_)
  · refine u_ret (u_op (t_tup (pa_cons pv_c pa_nil) (by show 1 ≤ 100000; decide) fun p7 hp7 => ?_))
    obtain ⟨g7, e7, h7⟩ := g6.addG (o := .tup [.str "check"]) hp7
    refine t_call (pa_cons (pv_var rfl) (pa_cons (pv_var rfl) (pa_cons (pv_var rfl) pa_nil))) (s_test g7 (by omega) (hd.mono e7) ok hw fun G8 H8 p8 a s b e8 g8 ma mb ms h8 => ?_)
    refine .inr (.inr ⟨p7, p8, _, _, rfl, rfl, st_of (g8.ex _ _ (e8 _ _ h7)), st_of (g8.ex _ _ h8), sz_of (by show 4 ≤ 100000; decide), fun z => by simp at z, fun _ z => by simp at z, fun _ _ => ?_⟩)
    exact ka_tup g8 (e7.trans e8) (by omega) kk (.plain (.chk a s b)) (.cons (.str _) (.cons (side_d a) (.cons (.str _) (.cons (side_d b) .nil)))) ⟨by cases a <;> exact ma, ms, by cases b <;> exact mb⟩
  refine u_seq (a_if (pt_test (pv_eqI (pv_var rfl) pv_c)) (fun _ => ?_) fun _ => ?_)
  · refine u_ret (u_call (u_cons (pv_var rfl _ (u_cons (pv_var rfl _ (u_cons ?_))))))
    refine t_call (pa_cons (pv_var rfl) (pa_cons (pv_var rfl) pa_nil)) (s_pick g6 (by omega) hG.l (fun z => ?_) ?_ fun H7 u g7 hu => ?_)
    · have := Paired.len hG.p; rw [z] at this; exact hG.ne (List.eq_nil_of_length_eq_zero this.symm)
    · have := Paired.len hG.p; have := hG.len; omega
    · obtain ⟨o, ho, hu⟩ := paired_mem hG.p hu
      obtain ⟨jo, oko⟩ := hG.ok o ho
      refine pa_nil _ (s_law_call (hs := hs) g7 (by omega) hd ok hu oko ho fun G' H' v a e g' dv oka => kk G' H' v a e (g'.up (by omega)) dv oka)
  refine u_next ?_
  dsimp only
  refine u_seq (u_if (u_test ?_))
  refine in_tup (d := d) (b := inV (.int d) [.int 24, .int 26, .int 27]) (pv_var rfl) (pa_cons pv_c (pa_cons pv_c (pa_cons pv_c pa_nil))) rfl (by decide) rfl fun H7 e7 => ⟨_, rfl, ?_⟩
  have g7 := g6.grow e7
  cases hb : inV (.int d) [V.int 24, .int 26, .int 27] with
  | true =>
    refine u_true (u_ret (u_tup (u_cons (u_op (t_lst (pa_cons pv_c (pa_cons pv_c pa_nil)) (by show 2 ≤ 100000; decide) fun p8 hp8 => ?_)))))
    obtain ⟨g8, e8, h8⟩ := g7.addG (o := .lst [.str "tell", .str "back"]) hp8
    refine pv_op (pv_var rfl) pv_c pr_gt _ (.inr ⟨_, rfl, ?_⟩)
    have hz : ∃ a : Str → PA, atI [V.str "tell", V.str "back"] (if decide (24 < d) = true then 1 else 0) = some (.str (a "").kind) ∧ (∀ x, NumIn h x → ActOk wide h hs Raw (a x)) ∧ ∀ x, (a x).kind = (a "").kind ∧ (a x).parts = [.str x] := by
      by_cases q : 24 < d
      · rw [if_pos (decide_eq_true q)]
        exact ⟨fun x => .plain (.back x), rfl, fun x hx => hx, fun x => ⟨rfl, rfl⟩⟩
      · rw [if_neg (by simpa using q)]
        exact ⟨fun x => .plain (.tell x), rfl, fun x hx => hx, fun x => ⟨rfl, rfl⟩⟩
    obtain ⟨a, a1, a2, a3⟩ := hz
    refine pr_ixl (sq_of (g8.ex _ _ h8)) a1 _ (u_cons ?_)
    refine pick_number g8 (by omega) (hd.mono e8) ok (fun _ => pv_var rfl) (pv_var rfl) fun G9 H9 y9 e9 g9 m9 => ?_
    refine pa_nil _ ⟨sz_of (by show 2 ≤ 100000; decide), ka_tup g9 (e8.trans e9) (by omega) kk (a y9) ?_ (a2 _ m9)⟩
    rw [(a3 y9).1, (a3 y9).2]
    exact .cons (.str _) (.cons (.str _) .nil)
  | false =>
    refine u_false (u_next ?_)
    dsimp only
    refine u_ret (u_op (u_lst (u_cons (u_tup (u_cons (pv_c _ (u_cons (pv_var rfl _ (u_cons ?_)))))))))
    refine t_call (pa_cons (pv_var rfl) (pa_cons (pv_var rfl) pa_nil)) (s_a_word g7 (by omega) hw fun G8 H8 i e8 g8 i1 i2 => ?_)
    refine pa_nil _ ⟨sz_of (by show 3 ≤ 100000; decide), fun p9 hp9 => ?_⟩
    obtain ⟨g9, e9, h9⟩ := g8.addG (o := .tup [.str "set", .str x, .int i]) hp9
    refine u_cons (t_tup (pa_cons pv_c (pa_cons (pv_var rfl) (pa_cons (pv_var rfl) (pa_cons (pv_var rfl) pa_nil)))) (by show 4 ≤ 100000; decide) fun p10 hp10 => ?_)
    obtain ⟨g10, e10, h10⟩ := g9.addG (o := .tup [.str "mid", .str x, .str y, .str z]) hp10
    refine u_cons (u_tup (u_cons (pv_c _ (u_cons (t_call (pa_cons (pv_var rfl) (pa_cons pv_c pa_nil)) (s_draw g10 (by omega) (by omega) fun H11 lb g11 l0 l1 => ?_))))))
    refine pa_nil _ ⟨sz_of (by show 2 ≤ 100000; decide), fun p12 hp12 => ?_⟩
    obtain ⟨g12, e12, h12⟩ := g11.addG (o := .tup [.str "go", .int lb]) hp12
    refine pa_nil _ ⟨sz_of (by show 3 ≤ 100000; decide), fun p13 hp13 => ?_⟩
    obtain ⟨g13, e13, h13⟩ := g12.addG (o := .lst [.ref p9, .ref p10, .ref p12]) hp13
    refine t_call (pa_cons (pv_var rfl) (pa_cons pv_c pa_nil)) (s_draw g13 (by omega) (by omega) fun H14 dd g14 dd0 dd1 => ?_)
    have e := (((e8.trans e9).trans e10).trans e12).trans e13
    have hdd : dd = 0 ∨ dd = 1 ∨ dd = 2 := by omega
    rcases hdd with q | q | q <;> subst q
    · exact pr_ixl (sq_of (g14.ex _ _ h13)) (v := .ref p9) rfl _ (kk _ _ _ (.plain (.set x i)) e (g14.up (by omega)) (.tup (st_of (e13 _ _ (e12 _ _ (e10 _ _ h9)))) (.cons (.str _) (.cons (.str _) (.cons (.int _) .nil)))) ⟨pn mx, i1, i2⟩)
    · exact pr_ixl (sq_of (g14.ex _ _ h13)) (v := .ref p10) rfl _ (kk _ _ _ (.plain (.mid x y z)) e (g14.up (by omega)) (.tup (st_of (e13 _ _ (e12 _ _ h10))) (.cons (.str _) (.cons (.str _) (.cons (.str _) (.cons (.str _) .nil))))) ⟨pn mx, pn my, pn mz⟩)
    · exact pr_ixl (sq_of (g14.ex _ _ h13)) (v := .ref p12) rfl _ (kk _ _ _ (.plain (.go lb)) e (g14.up (by omega)) (.tup (st_of (e13 _ _ h12)) (.cons (.str _) (.cons (.int _) .nil))) (by show Raw lb; unfold Raw; omega))
end
end B72


set_option Elab.async false
set_option linter.all false
set_option maxRecDepth 100000
set_option maxHeartbeats 400000
/-! C6: a loop over a row; a head. -/
namespace B72
open PySem L2 Evl R72
section
variable {K : PySem.W.Frag} {w : World} {G G' H H' : Hp} {M : List (Addr × HO)} {t : Addr} {n : Nat} {Q : VK} {E : XK} {σ : L2.St} {D : Ends} {h o : Hr} {hs : List Hr} {v u : V} {j jo : Nat} {wide : Int}
theorem s_loop (g : Gn G M t n H) (hn : n ≤ 600000) (hd : HeadG G v h) (ok : HrOk j h) (hr : h.rows ≠ []) (hf : h.fingers ≠ []) (hnum : 1 < (h.plain ++ h.fingers).length) (hw : 1 ≤ wide ∧ wide ≤ 31)
    (k : ∀ G' H' p vs (as : List PA), Ex G G' → Gn G' (M ++ [(p, .lst vs)]) t (n + 10) H' → DpAll K G' vs (as.map PA.d) → (∀ a ∈ as, ActOk wide h hs Raw a) → as.length = 9 → Q (.ref p) H') : sp__law_loop K w [.ref t, v, .int wide] H Q E := by
  refine ⟨rfl, ?_⟩
  unfold t__law_loop
  have b1 : ∀ l ∈ plains, 1 ≤ l.length ∧ l.length ≤ 3 := by decide
  have b2 : ∀ l ∈ fingersL, l.length ≤ 2 := by decide
  have b1 := b1 _ ok.plain
  have b2 := b2 _ ok.fingers
  obtain ⟨lr, qr⟩ := hd.rows g.ex
  obtain ⟨lf, qf⟩ := hd.fingers g.ex
  obtain ⟨lp, qp⟩ := hd.plain g.ex
  obtain ⟨a, ra, ha⟩ := List.exists_cons_of_ne_nil hr
  obtain ⟨p, rp, hp⟩ := List.exists_cons_of_ne_nil hf
  obtain ⟨x, rx, hx⟩ := List.exists_cons_of_ne_nil (l := h.plain) (fun z => by rw [z] at b1; simp at b1)
  have glr : G lr = some (.lst (h.rows.map V.str)) := qr.elim fun _ z => z.2.2
  have glf : G lf = some (.lst (h.fingers.map V.str)) := qf.elim fun _ z => z.2.2
  have glp : G lp = some (.lst (h.plain.map V.str)) := qp.elim fun _ z => z.2.2
  have ma : a ∈ h.rows := by rw [ha]; exact List.mem_cons_self ..
  have mp : NumIn h p := List.mem_append_right _ (by rw [hp]; exact List.mem_cons_self ..)
  have mx : NumIn h x := List.mem_append_left _ (by rw [hx]; exact List.mem_cons_self ..)
  refine u_seq (u_par3 (u_cons ?_))
  refine pv_op (pv_head g hd (pv_var rfl) qr) pv_c (pr_ixl (v := .str a) (sq_of (g.ex _ _ glr)) (by rw [ha]; exact atI_zero _ _)) _ (u_cons ?_)
  refine pv_op (pv_head g hd (pv_var rfl) qf) pv_c (pr_ixl (v := .str p) (sq_of (g.ex _ _ glf)) (by rw [hp]; exact atI_zero _ _)) _ (u_cons ?_)
  refine pv_op (pv_head g hd (pv_var rfl) qp) pv_c (pr_ixl (v := .str x) (sq_of (g.ex _ _ glp)) (by rw [hx]; exact atI_zero _ _)) _ ?_
  refine pa_nil _ ⟨_, _, _, rfl, ?_⟩
  dsimp only
  refine u_seq (u_asg (u_op ?_))
  refine t_cat g (pv_head g hd (pv_var rfl) qf) (pv_head g hd (pv_var rfl) qp) glf glp (by omega) fun p1 hp1 => ?_
  obtain ⟨g1, e1, h1⟩ := g.addG (o := .lst ((h.fingers ++ h.plain).map V.str)) hp1
  obtain ⟨last, hlast, ml⟩ : ∃ last, (h.fingers ++ h.plain)[1]? = some last ∧ NumIn h last := by
    have hlen : 1 < (h.fingers ++ h.plain).length := by rw [List.length_append] at hnum ⊢; omega
    refine ⟨(h.fingers ++ h.plain)[1], List.getElem?_eq_getElem hlen, ?_⟩
    have := List.getElem_mem hlen
    unfold NumIn
    rw [List.mem_append] at this ⊢
    exact this.symm
  refine pv_c _ (pr_ixl (v := .str last) (sq_of (g1.ex _ _ h1)) (by rw [atI_nat (by decide) (by rw [List.length_map]; have := (List.getElem?_eq_some_iff.mp hlast).1; omega)]; rw [List.getElem?_map]; show Option.map V.str ((h.fingers ++ h.plain)[1]?) = _; rw [hlast]; rfl) _ ?_)
  dsimp only [gName]
  refine u_seq (u_asg (u_call (u_cons (pv_var rfl _ (u_cons (u_lst (u_cons ?_)))))))
  refine t_tup (pa_cons pv_c (pa_cons (pv_var rfl) (pa_cons (pv_var rfl) (pa_cons (pv_var rfl) pa_nil)))) (by show 4 ≤ 100000; decide) fun p2 hp2 => u_cons ?_
  obtain ⟨g2, e2, h2⟩ := g1.addG (o := .tup [.str "get", .str x, .str a, .str p]) hp2
  refine t_tup (pa_cons pv_c (pa_cons (pv_var rfl) (pa_cons (pv_var rfl) (pa_cons (pv_var rfl) pa_nil)))) (by show 4 ≤ 100000; decide) fun p3 hp3 => u_cons ?_
  obtain ⟨g3, e3, h3⟩ := g2.addG (o := .tup [.str "put", .str a, .str p, .str x]) hp3
  refine t_tup (pa_cons pv_c (pa_cons (pv_var rfl) (pa_cons (pv_var rfl) (pa_cons (pv_var rfl) pa_nil)))) (by show 4 ≤ 100000; decide) fun p4 hp4 => ?_
  obtain ⟨g4, e4, h4⟩ := g3.addG (o := .tup [.str "put", .str a, .str p, .str p]) hp4
  refine pa_nil _ ⟨sz_of (by show 3 ≤ 100000; decide), fun p5 hp5 => ?_⟩
  obtain ⟨g5, e5, h5⟩ := g4.addG (o := .lst [.ref p2, .ref p3, .ref p4]) hp5
  refine pa_nil _ (s_pick g5 (by omega) (sq_of h5) (by simp) (by show 3 < 1000000; decide) fun H6 tch g6 htch => ?_)
  obtain ⟨ta, dta, oka⟩ : ∃ ta : PA, Dp K (upd (upd (upd (upd (upd G p1 (.lst ((h.fingers ++ h.plain).map V.str))) p2 (.tup [.str "get", .str x, .str a, .str p])) p3 (.tup [.str "put", .str a, .str p, .str x])) p4 (.tup [.str "put", .str a, .str p, .str p])) p5 (.lst [.ref p2, .ref p3, .ref p4])) tch ta.d ∧ ActOk wide h hs Raw ta := by
    have htch : tch = .ref p2 ∨ tch = .ref p3 ∨ tch = .ref p4 := by simpa using htch
    rcases htch with z | z | z <;> rw [z]
    · exact ⟨.plain (.get x a p), .tup (st_of (e5 _ _ (e4 _ _ (e3 _ _ h2)))) (.cons (.str _) (.cons (.str _) (.cons (.str _) (.cons (.str _) .nil)))), ⟨mx, ma, mp⟩⟩
    · exact ⟨.plain (.put a p x), .tup (st_of (e5 _ _ (e4 _ _ h3))) (.cons (.str _) (.cons (.str _) (.cons (.str _) (.cons (.str _) .nil)))), ⟨ma, mp, mx⟩⟩
    · exact ⟨.plain (.put a p p), .tup (st_of (e5 _ _ h4)) (.cons (.str _) (.cons (.str _) (.cons (.str _) (.cons (.str _) .nil)))), ⟨ma, mp, mp⟩⟩
  have e05 := (((e1.trans e2).trans e3).trans e4).trans e5
  generalize upd (upd (upd (upd (upd G p1 (.lst ((h.fingers ++ h.plain).map V.str))) p2 (.tup [.str "get", .str x, .str a, .str p])) p3 (.tup [.str "put", .str a, .str p, .str x])) p4 (.tup [.str "put", .str a, .str p, .str p])) p5 (.lst [.ref p2, .ref p3, .ref p4]) = G6 at g6 dta e05
  clear e1 e2 e3 e4 e5 h1 h2 h3 h4 h5 g1 g2 g3 g4 g5
  dsimp only [gName]
  refine u_seq (u_asg (u_lst (u_cons (u_tup (u_cons (pv_c _ (u_cons (pv_var rfl _ (u_cons (pv_c _ (u_cons ?_)))))))))))
  refine t_call (pa_cons (pv_var rfl) (pa_cons (pv_op (pv_var rfl) pv_c pr_add) pa_nil)) (s_draw g6 (by omega) (by omega) fun H7 hi g7 i0 i1 => ?_)
  refine pa_nil _ ⟨sz_of (by show 4 ≤ 100000; decide), fun q1 hq1 => u_cons ?_⟩
  obtain ⟨g8, e8, h8⟩ := g7.addG (o := .tup [.str "ask", .str x, .int 0, .int hi]) hq1
  refine t_tup (pa_cons pv_c (pa_cons (pv_var rfl) (pa_cons (pv_var rfl) pa_nil))) (by show 3 ≤ 100000; decide) fun q2 hq2 => u_cons ?_
  obtain ⟨g9, e9, h9⟩ := g8.addG (o := .tup [.str "row", .str a, .str x]) hq2
  refine u_tup (u_cons (pv_c _ (u_cons (pv_var rfl _ (u_cons (u_call (u_cons (pv_var rfl _ (u_cons ?_))))))))) 
  refine t_lst (pa_cons pv_c (pa_cons pv_c (pa_cons pv_c (pa_cons pv_c pa_nil)))) (by show 4 ≤ 100000; decide) fun q3 hq3 => ?_
  obtain ⟨g10, e10, h10⟩ := g9.addG (o := .lst [.int 0, .int 0, .int 0, .int 1]) hq3
  refine pa_nil _ (s_pick g10 (by omega) (sq_of h10) (by simp) (by show 4 < 1000000; decide) fun H11 u11 g11 hu11 => ?_)
  obtain ⟨st, rfl, st1, st2⟩ : ∃ i : Int, u11 = .int i ∧ -wide ≤ i ∧ i ≤ wide := by
    have hu : u11 = .int 0 ∨ u11 = .int 0 ∨ u11 = .int 0 ∨ u11 = .int 1 := by simpa using hu11
    rcases hu with z | z | z | z
    · exact ⟨_, z, by omega, by omega⟩
    · exact ⟨_, z, by omega, by omega⟩
    · exact ⟨_, z, by omega, by omega⟩
    · exact ⟨_, z, by omega, by omega⟩
  refine pa_nil _ ⟨sz_of (by show 3 ≤ 100000; decide), fun q4 hq4 => ?_⟩
  obtain ⟨g12, e12, h12⟩ := g11.addG (o := .tup [.str "set", .str p, .int st]) hq4
  refine pa_nil _ ⟨sz_of (by show 3 ≤ 100000; decide), fun q5 hq5 => ?_⟩
  obtain ⟨g13, e13, h13⟩ := g12.addG (o := .lst [.ref q1, .ref q2, .ref q4]) hq5
  have d1 : Dp K _ (.ref q1) (PA.plain (.ask x 0 hi)).d := .tup (st_of (e13 _ _ (e12 _ _ (e10 _ _ (e9 _ _ h8))))) (.cons (.str _) (.cons (.str _) (.cons (.int _) (.cons (.int _) .nil))))
  have d2 : Dp K _ (.ref q2) (PA.plain (.row a x)).d := .tup (st_of (e13 _ _ (e12 _ _ (e10 _ _ h9)))) (.cons (.str _) (.cons (.str _) (.cons (.str _) .nil)))
  have d3 : Dp K _ (.ref q4) (PA.plain (.set p st)).d := .tup (st_of (e13 _ _ h12)) (.cons (.str _) (.cons (.str _) (.cons (.int _) .nil)))
  have e613 := (((e8.trans e9).trans e10).trans e12).trans e13
  have dta := dp_ex e613 _ dta
  have e013 := e05.trans e613
  dsimp only [gName]
  refine u_seq (u_asg (u_op (pv_var rfl _ (u_lst (u_cons ?_)))))
  refine t_tup (pa_cons pv_c (pa_cons (pv_var rfl) (pa_cons (pv_var rfl) pa_nil))) (by show 3 ≤ 100000; decide) fun q6 hq6 => u_cons ?_
  obtain ⟨g14, e14, h14⟩ := g13.addG (o := .tup [.str "length", .str last, .str a]) hq6
  refine u_tup (u_cons (pv_c _ (u_cons (pv_var rfl _ (u_cons (u_call (u_cons (pv_var rfl _ (u_cons ?_)))))))))
  refine t_lst (pa_cons pv_c (pa_cons pv_c (pa_cons pv_c pa_nil))) (by show 3 ≤ 100000; decide) fun q7 hq7 => ?_
  obtain ⟨g15, e15, h15⟩ := g14.addG (o := .lst ([("<=" : Str), "<=", "<"].map V.str)) hq7
  refine pa_nil _ (pick_strs g15 (by omega) h15 (by simp) (by show 3 < 1000; decide) fun H16 sg g16 hsg => u_cons (pv_var rfl _ (u_cons (pv_c _ ?_))))
  have hsg : sg = "<" ∨ sg = "<=" := by
    simp only [List.mem_cons, List.mem_nil_iff, or_false] at hsg
    rcases hsg with z | z | z
    · exact .inr z
    · exact .inr z
    · exact .inl z
  refine pa_nil _ ⟨sz_of (by show 5 ≤ 100000; decide), fun q8 hq8 => u_cons (pv_var rfl _ ?_)⟩
  obtain ⟨g17, e17, h17⟩ := g16.addG (o := .tup [.str "if", .str last, .str sg, .str p, .int 8]) hq8
  refine pa_nil _ ⟨sz_of (by show 3 ≤ 100000; decide), fun q9 hq9 => ?_⟩
  obtain ⟨g18, e18, h18⟩ := g17.addG (o := .lst [.ref q6, .ref q8, tch]) hq9
  have e1318 := ((e14.trans e15).trans e17).trans e18
  refine .inr (.inl ⟨q5, q9, _, _, rfl, rfl, g18.ex _ _ (e1318 _ _ h13), g18.ex _ _ h18, sz_of (by show 6 ≤ 100000; decide), fun q10 hq10 => ?_⟩)
  obtain ⟨g19, e19, h19⟩ := g18.addG (o := .lst ([.ref q1, .ref q2, .ref q4] ++ [.ref q6, .ref q8, tch])) hq10
  have d4 : Dp K _ (.ref q6) (PA.plain (.len last a)).d := .tup (st_of (e19 _ _ (e18 _ _ (e17 _ _ (e15 _ _ h14))))) (.cons (.str _) (.cons (.str _) (.cons (.str _) .nil)))
  have d5 : Dp K _ (.ref q8) (PA.plain (.iff (.inl last) sg (.inl p) 8)).d := .tup (st_of (e19 _ _ (e18 _ _ h17))) (.cons (.str _) (.cons (.str _) (.cons (.str _) (.cons (.str _) (.cons (.int _) .nil)))))
  have e1319 := e1318.trans e19
  dsimp only [gName]
  refine u_ret (u_op (pv_var rfl _ (u_lst (u_cons ?_))))
  refine t_tup (pa_cons pv_c (pa_cons (pv_var rfl) (pa_cons (pv_var rfl) (pa_cons pv_c pa_nil)))) (by show 4 ≤ 100000; decide) fun q11 hq11 => u_cons ?_
  obtain ⟨g20, e20, h20⟩ := g19.addG (o := .tup [.str "add", .str p, .str p, .int 1]) hq11
  refine u_tup (u_cons (pv_c _ (u_cons (u_call (u_cons (pv_var rfl _ (u_cons ?_)))))))
  refine t_lst (pa_cons pv_c (pa_cons pv_c pa_nil)) (by show 2 ≤ 100000; decide) fun q12 hq12 => ?_
  obtain ⟨g21, e21, h21⟩ := g20.addG (o := .lst [.int 3, .int 4]) hq12
  refine pa_nil _ (s_pick g21 (by omega) (sq_of h21) (by simp) (by show 2 < 1000000; decide) fun H22 u22 g22 hu22 => ?_)
  obtain ⟨gt, rfl, gt1⟩ : ∃ i : Int, u22 = .int i ∧ Raw i := by
    have hu : u22 = .int 3 ∨ u22 = .int 4 := by simpa using hu22
    rcases hu with z | z
    · exact ⟨_, z, by unfold Raw; omega⟩
    · exact ⟨_, z, by unfold Raw; omega⟩
  refine pa_nil _ ⟨sz_of (by show 2 ≤ 100000; decide), fun q13 hq13 => u_cons ?_⟩
  obtain ⟨g23, e23, h23⟩ := g22.addG (o := .tup [.str "go", .int gt]) hq13
  refine t_tup (pa_cons pv_c (pa_cons (pv_var rfl) pa_nil)) (by show 2 ≤ 100000; decide) fun q14 hq14 => ?_
  obtain ⟨g24, e24, h24⟩ := g23.addG (o := .tup [.str "tell", .str x]) hq14
  refine pa_nil _ ⟨sz_of (by show 3 ≤ 100000; decide), fun q15 hq15 => ?_⟩
  obtain ⟨g25, e25, h25⟩ := g24.addG (o := .lst [.ref q11, .ref q13, .ref q14]) hq15
  have e1925 := ((((e20.trans e21).trans e23).trans e24).trans e25)
  refine .inr (.inl ⟨q10, q15, _, _, rfl, rfl, g25.ex _ _ (e1925 _ _ h19), g25.ex _ _ h25, sz_of (by show 9 ≤ 100000; decide), fun q16 hq16 => ?_⟩)
  have g26 := g25.new (o := .lst (([.ref q1, .ref q2, .ref q4] ++ [.ref q6, .ref q8, tch]) ++ [.ref q11, .ref q13, .ref q14])) hq16
  have e1325 := e1319.trans e1925
  refine k _ _ q16 _ [.plain (.ask x 0 hi), .plain (.row a x), .plain (.set p st), .plain (.len last a), .plain (.iff (.inl last) sg (.inl p) 8), ta, .plain (.sum "add" p p (.inr 1)), .plain (.go gt), .plain (.tell x)] (e013.trans e1325) (g26.up (by omega)) ?_ ?_ rfl
  · refine .cons (dp_ex e1325 _ d1) (.cons (dp_ex e1325 _ d2) (.cons (dp_ex e1325 _ d3) (.cons (dp_ex e1925 _ d4) (.cons (dp_ex e1925 _ d5) (.cons (dp_ex e1325 _ dta) (.cons ?_ (.cons ?_ (.cons ?_ .nil))))))))
    · exact .tup (st_of (e25 _ _ (e24 _ _ (e23 _ _ (e21 _ _ h20))))) (.cons (.str _) (.cons (.str _) (.cons (.str _) (.cons (.int _) .nil))))
    · exact .tup (st_of (e25 _ _ (e24 _ _ h23))) (.cons (.str _) (.cons (.int _) .nil))
    · exact .tup (st_of (e25 _ _ h24)) (.cons (.str _) (.cons (.str _) .nil))
  · intro y hy
    simp only [List.mem_cons, List.mem_nil_iff, or_false] at hy
    rcases hy with z | z | z | z | z | z | z | z | z <;> subst z
    · exact ⟨mx, by omega, by omega, by omega⟩
    · exact ⟨ma, mx⟩
    · exact ⟨mp, st1, st2⟩
    · exact ⟨ml, ma⟩
    · exact ⟨ml, hsg, mp, by unfold Raw; omega⟩
    · exact oka
    · exact ⟨by simp [sumKs], mp, mp, by show -wide ≤ 1 ∧ (1 : Int) ≤ wide; omega, fun _ => ⟨_, rfl⟩⟩
    · exact gt1
    · exact mx
end
end B72


set_option Elab.async false
set_option linter.all false
set_option maxRecDepth 100000
set_option maxHeartbeats 400000
/-! C7: a head drawn. -/
namespace B72
open PySem L2 Evl R72
section
variable {K : PySem.W.Frag} {w : World} {G G' H H' : Hp} {M : List (Addr × HO)} {t : Addr} {n : Nat} {Q : VK} {E : XK} {σ : L2.St} {D : Ends} {h o : Hr} {hs : List Hr} {v u : V} {j jo : Nat} {wide : Int}
theorem tt_andNe {tl : TE} {u : TT} {Q : Bool → Hp → Prop} {a : Addr} {xs : List Str} (hl : Pv tl σ H (.ref a)) (ga : H a = some (.lst (xs.map V.str))) (hU : ∀ x ∈ xs, x ∈ U7) (kN : xs = [] → ∀ H1, Ex H H1 → Q false H1) (kY : xs ≠ [] → ∀ H1, Ex H H1 → u σ H1 Q) :
    tAnd (tTest (tOp (rNeX K) tl (tLst tNil))) u σ H Q := by
  refine t_neNil (!xs.isEmpty) (by cases xs <;> rfl) hl (.lst (sq_of ga) (dpAll_strs xs)) (strsU xs fun z hz => okU z (hU z hz)) fun H1 e1 => ⟨_, rfl, ?_⟩
  cases hx : xs with
  | nil => exact u_false (kN hx H1 e1)
  | cons x r => exact u_true (kY (by rw [hx]; simp) H1 e1)
theorem erase_map (xs : List Str) : ∀ i : Nat, (xs.map V.str).eraseIdx i = (xs.eraseIdx i).map V.str := by
  induction xs with
  | nil => intro i; cases i <;> rfl
  | cons x xs ih =>
    intro i
    cases i with
    | zero => rfl
    | succ i => simp only [List.map_cons, List.eraseIdx_cons_succ, ih]
theorem u_np {Q : Option Int → Hp → Prop} (k : Q none H) : tNoPart σ H Q := k
theorem u_disp {trs : List (TE × TE)} (k : ∀ p, H p = none → tPairs trs σ (upd H p (.dK [])) fun ps H2 => H2 p = some (.dK []) ∧ ∃ kvs : List (Key × V), ps = kvs.map (fun kv => (kV kv.1, kv.2)) ∧ kvs.length ≤ 15 ∧ Q (.ref p) (upd H2 p (.dK (mergeK [] kvs)))) : tDisp trs σ H Q := k
theorem u_pair {tk tv : TE} {r : List (TE × TE)} {Q : List (V × V) → Hp → Prop} (k : tk σ H fun x H1 => tv σ H1 fun y H2 => tPairs r σ H2 fun ps H3 => Q ((x, y) :: ps) H3) : tPairs ((tk, tv) :: r) σ H Q := k
theorem u_put {td ty tx : TE} (k : tx σ H fun v H1 => td σ H1 fun x H2 => ty σ H2 fun y H3 => ∃ a H4, x = .ref a ∧ DPut H3 a y v H4 ∧ D.nx σ H4) : sDPut td ty tx D σ H := k
theorem cut_p {d : Int} (h0 : 0 ≤ d) (h1 : d < 3) : ∃ pl ∈ plains, cutV [V.str "x", .str "y", .str "z"] none (some (1 + d)) = pl.map V.str := by
  have : d = 0 ∨ d = 1 ∨ d = 2 := by omega
  rcases this with z | z | z <;> subst z
  · exact ⟨["x"], by simp [plains], rfl⟩
  · exact ⟨["x", "y"], by simp [plains], rfl⟩
  · exact ⟨["x", "y", "z"], by simp [plains], rfl⟩
theorem cut_f {d : Int} (h0 : 0 ≤ d) (h1 : d < 3) : ∃ pl ∈ fingersL, cutV [V.str "p", .str "q"] none (some d) = pl.map V.str := by
  have : d = 0 ∨ d = 1 ∨ d = 2 := by omega
  rcases this with z | z | z <;> subst z
  · exact ⟨[], by simp [fingersL], rfl⟩
  · exact ⟨["p"], by simp [fingersL], rfl⟩
  · exact ⟨["p", "q"], by simp [fingersL], rfl⟩
theorem cut_r {d : Int} (h0 : 0 ≤ d) (h1 : d < 3) : ∃ pl ∈ rowsL, cutV [V.str "a", .str "b"] none (some d) = pl.map V.str := by
  have : d = 0 ∨ d = 1 ∨ d = 2 := by omega
  rcases this with z | z | z <;> subst z
  · exact ⟨[], by simp [rowsL], rfl⟩
  · exact ⟨["a"], by simp [rowsL], rfl⟩
  · exact ⟨["a", "b"], by simp [rowsL], rfl⟩
theorem s_head (g : Gn G M t n H) (hn : n ≤ 600000) {k : Nat} (hk : k < 3) (kk : ∀ G' H' v h, Ex G G' → Gn G' M t (n + 18) H' → HeadG G' v h → HrOk k h → Q v H') : sp__law_head K w [.ref t, .int (k : Int)] H Q E := by
  refine ⟨rfl, ?_⟩
  unfold t__law_head
  refine u_seq (u_asg (u_disp fun p hp => ?_))
  have g1 := g.new (o := .dK []) hp
  refine u_pair (pv_c _ (u_op (t_lst (pa_cons pv_c (pa_cons pv_c (pa_cons pv_c pa_nil))) (by show 3 ≤ 100000; decide) fun p2 hp2 => ?_)))
  obtain ⟨g2, e2, h2⟩ := g1.addG (o := .lst [.str "main", .str "f", .str "g"]) hp2
  obtain ⟨nm, hnm, hat⟩ : ∃ nm, (["main", "f", "g"] : List Str)[k]? = some nm ∧ atI [V.str "main", .str "f", .str "g"] (k : Int) = some (.str nm) := by
    have : k = 0 ∨ k = 1 ∨ k = 2 := by omega
    rcases this with z | z | z <;> subst z
    · exact ⟨_, rfl, rfl⟩
    · exact ⟨_, rfl, rfl⟩
    · exact ⟨_, rfl, rfl⟩
  refine pv_var rfl _ (pr_ixl (sq_of (g2.ex _ _ h2)) hat _ (u_pair (pv_c _ (u_slL (t_lst (pa_cons pv_c (pa_cons pv_c (pa_cons pv_c pa_nil))) (by show 3 ≤ 100000; decide) fun p3 hp3 => ?_)))))
  obtain ⟨g3, e3, h3⟩ := g2.addG (o := .lst [.str "x", .str "y", .str "z"]) hp3
  refine u_np (u_part (u_op (pv_c _ ?_)))
  refine t_call (pa_cons (pv_var rfl) (pa_cons pv_c pa_nil)) (s_draw g3 (by omega) (by omega) fun H4 d1 g4 d10 d11 => ?_)
  refine pr_add _ ⟨_, rfl, .inl ⟨p3, _, rfl, sq_of (g4.ex _ _ h3), fun lp hlp => ?_⟩⟩
  obtain ⟨pl, hpl, epl⟩ := cut_p d10 d11
  rw [epl]
  obtain ⟨g5, e5, h5⟩ := g4.addG (o := .lst (pl.map V.str)) hlp
  refine ⟨g5.at (o := .dK []) (by simp), [(.inr "name", .str nm), (.inr "plain", .ref lp)], rfl, by show 2 ≤ 15; decide, ?_⟩
  have em : mergeK [] [((.inr "name" : Key), V.str nm), (.inr "plain", .ref lp)] = [(.inr "name", .str nm), (.inr "plain", .ref lp)] := rfl
  rw [em]
  have g6 := g5.chg (o' := .dK [(.inr "name", .str nm), (.inr "plain", .ref lp)]) M (c2 := []) rfl
  have e05 := (e2.trans e3).trans e5
  generalize hG6 : upd (upd (upd G p2 (.lst [.str "main", .str "f", .str "g"])) p3 (.lst [.str "x", .str "y", .str "z"])) lp (.lst (pl.map V.str)) = G6 at g6 h5 e05
  dsimp only [gName]
  -- fingers
  refine u_seq (u_put (u_slL (t_lst (pa_cons pv_c (pa_cons pv_c pa_nil)) (by show 2 ≤ 100000; decide) fun p7 hp7 => ?_)))
  obtain ⟨g7, e7, h7⟩ := g6.addG (o := .lst [.str "p", .str "q"]) hp7
  refine u_np (u_part ?_)
  refine t_call (pa_cons (pv_var rfl) (pa_cons pv_c pa_nil)) (s_draw g7 (by omega) (by omega) fun H8 d2 g8 d20 d21 => ?_)
  refine ⟨_, rfl, .inl ⟨p7, _, rfl, sq_of (g8.ex _ _ h7), fun lf hlf => ?_⟩⟩
  obtain ⟨fl, hfl, efl⟩ := cut_f d20 d21
  rw [efl]
  obtain ⟨g9, e9, h9⟩ := g8.addG (o := .lst (fl.map V.str)) hlf
  refine pv_var rfl _ (pv_c _ ⟨p, _, rfl, DPut.k (k := Sum.inr "fingers") (g9.at (o := .dK [(.inr "name", .str nm), (.inr "plain", .ref lp)]) (by simp)) (sz_lt (by show 2 < 100000; decide)), ?_⟩)
  have ep : putK [((.inr "name" : Key), V.str nm), (.inr "plain", .ref lp)] (.inr "fingers") (.ref lf) = [(.inr "name", .str nm), (.inr "plain", .ref lp), (.inr "fingers", .ref lf)] := rfl
  rw [ep]
  have g10 := g9.chg (o' := .dK [(.inr "name", .str nm), (.inr "plain", .ref lp), (.inr "fingers", .ref lf)]) M (c2 := []) rfl
  dsimp only
  -- rows
  refine u_seq (u_put (u_slL (t_lst (pa_cons pv_c (pa_cons pv_c pa_nil)) (by show 2 ≤ 100000; decide) fun p11 hp11 => ?_)))
  obtain ⟨g11, e11, h11⟩ := g10.addG (o := .lst [.str "a", .str "b"]) hp11
  refine u_np (u_part (u_call (u_cons (pv_var rfl _ (u_cons ?_)))))
  refine t_lst (pa_cons pv_c (pa_cons pv_c (pa_cons pv_c (pa_cons pv_c (pa_cons pv_c pa_nil))))) (by show 5 ≤ 100000; decide) fun p12 hp12 => ?_
  obtain ⟨g12, e12, h12⟩ := g11.addG (o := .lst [.int 0, .int 1, .int 1, .int 1, .int 2]) hp12
  refine pa_nil _ (s_pick g12 (by omega) (sq_of h12) (by simp) (by show 5 < 1000000; decide) fun H13 u13 g13 hu13 => ?_)
  obtain ⟨d3, rfl, d30, d31⟩ : ∃ i : Int, u13 = .int i ∧ 0 ≤ i ∧ i < 3 := by
    have hu : u13 = .int 0 ∨ u13 = .int 1 ∨ u13 = .int 1 ∨ u13 = .int 1 ∨ u13 = .int 2 := by simpa using hu13
    rcases hu with z | z | z | z | z <;> exact ⟨_, z, by decide, by decide⟩
  refine ⟨_, rfl, .inl ⟨p11, _, rfl, sq_of (g13.ex _ _ (e12 _ _ h11)), fun lr hlr => ?_⟩⟩
  obtain ⟨rl, hrl, erl⟩ := cut_r d30 d31
  rw [erl]
  obtain ⟨g14, e14, h14⟩ := g13.addG (o := .lst (rl.map V.str)) hlr
  refine pv_var rfl _ (pv_c _ ⟨p, _, rfl, DPut.k (k := Sum.inr "rows") (g14.at (o := .dK [(.inr "name", .str nm), (.inr "plain", .ref lp), (.inr "fingers", .ref lf)]) (by simp)) (sz_lt (by show 3 < 100000; decide)), ?_⟩)
  have ep : putK [((.inr "name" : Key), V.str nm), (.inr "plain", .ref lp), (.inr "fingers", .ref lf)] (.inr "rows") (.ref lr) = [(.inr "name", .str nm), (.inr "plain", .ref lp), (.inr "fingers", .ref lf), (.inr "rows", .ref lr)] := rfl
  rw [ep]
  have g15 := g14.chg (o' := .dK [(.inr "name", .str nm), (.inr "plain", .ref lp), (.inr "fingers", .ref lf), (.inr "rows", .ref lr)]) M (c2 := []) rfl
  dsimp only
  -- params
  refine u_seq (u_put (t_lst pa_nil (by decide) fun lq hlq => ?_))
  have g16 := g15.new (o := .lst []) hlq
  refine pv_var rfl _ (pv_c _ ⟨p, _, rfl, DPut.k (k := Sum.inr "params") (g16.at (o := .dK [(.inr "name", .str nm), (.inr "plain", .ref lp), (.inr "fingers", .ref lf), (.inr "rows", .ref lr)]) (by simp)) (sz_lt (by show 4 < 100000; decide)), ?_⟩)
  have ep : putK [((.inr "name" : Key), V.str nm), (.inr "plain", .ref lp), (.inr "fingers", .ref lf), (.inr "rows", .ref lr)] (.inr "params") (.ref lq) = (Hr.mk nm pl fl rl []).kvs lp lf lr lq := rfl
  rw [ep]
  have g17 := g16.chg (o' := .dK ((Hr.mk nm pl fl rl []).kvs lp lf lr lq)) M (c2 := [(lq, .lst [])]) (by rw [List.append_assoc]; rfl)
  have gp : Ex G6 _ := ((((e7.trans e9).trans e11).trans e12).trans e14)
  have ex0 := e05.trans gp
  have hlp := gp _ _ h5
  have hlf2 := e14 _ _ (e12 _ _ (e11 _ _ h9))
  generalize upd (upd (upd (upd (upd G6 p7 (.lst [.str "p", .str "q"])) lf (.lst (fl.map V.str))) p11 (.lst [.str "a", .str "b"])) p12 (.lst [.int 0, .int 1, .int 1, .int 1, .int 2])) lr (.lst (rl.map V.str)) = G7 at g17 ex0 hlp hlf2 h14 gp
  clear g1 g2 g3 g4 g5 g6 g7 g8 g9 g10 g11 g12 g13 g14 g15 g16 e2 e3 e5 e7 e9 e11 e12 e14 h2 h3 h5 h7 h9 h11 h12 gp
  dsimp only
  -- what is to be shown at the end
  have fin : ∀ (G' H' : Hp) (pr : List Str) (m : Nat), Ex G7 G' → Gn G' (M ++ [(p, .dK ((Hr.mk nm pl fl rl []).kvs lp lf lr lq)), (lq, .lst (pr.map V.str))]) t m H' → m ≤ n + 18 → (∀ x ∈ pr, x ∈ pl ++ fl ++ rl) → pr.length ≤ 7 → Q (.ref p) H' := by
    intro G' H' pr m e g hm hpr hl
    have hne : lq ≠ p := ne_of (g.at (p := lq) (o := .lst (pr.map V.str)) (by simp)) (g.at (p := p) (o := .dK ((Hr.mk nm pl fl rl []).kvs lp lf lr lq)) (by simp)) (by intro z; cases z)
    obtain ⟨ga, ea⟩ := Gn.freeze (M1 := M ++ [(p, .dK ((Hr.mk nm pl fl rl []).kvs lp lf lr lq))]) (M2 := []) (p := lq) (o := .lst (pr.map V.str)) (by rw [List.append_assoc]; exact g)
    rw [List.append_nil] at ga
    obtain ⟨gb, eb⟩ := Gn.freeze (M1 := M) (M2 := []) ga
    rw [List.append_nil] at gb
    refine kk _ H' (.ref p) ⟨nm, pl, fl, rl, pr⟩ (((ex0.trans e).trans ea).trans eb) (gb.up hm) ⟨p, lp, lf, lr, lq, rfl, upd_same, eb _ _ (ea _ _ (e _ _ hlp)), eb _ _ (ea _ _ (e _ _ hlf2)), eb _ _ (ea _ _ (e _ _ h14)), eb _ _ upd_same⟩ ⟨hnm, hpl, hfl, hrl, hpr, hl⟩
  have b1 : ∀ l ∈ plains, 1 ≤ l.length ∧ l.length ≤ 3 := by decide
  have b2 : ∀ l ∈ fingersL, l.length ≤ 2 := by decide
  have b3 : ∀ l ∈ rowsL, l.length ≤ 2 := by decide
  have b1 := b1 _ hpl
  have b2 := b2 _ hfl
  have b3 := b3 _ hrl
  refine u_cut ⟨fun σ' H' => (∃ o3, σ' = [some (.ref t), some (.int (k : Int)), some (.ref p), o3]) ∧ ∃ (G' : Hp) (pr : List Str) (m : Nat), Ex G7 G' ∧ Gn G' (M ++ [(p, .dK ((Hr.mk nm pl fl rl []).kvs lp lf lr lq)), (lq, .lst (pr.map V.str))]) t m H' ∧ m ≤ n + 18 ∧ (∀ x ∈ pr, x ∈ pl ++ fl ++ rl) ∧ pr.length ≤ 7, ?_, fun σ' H' q => ?_⟩
  rotate_left
  · obtain ⟨⟨o3, rfl⟩, G', pr, m, e, g, hm, hpr, hl⟩ := q
    exact u_ret (pv_var rfl _ (fin G' H' pr m e g hm hpr hl))
  refine a_if (pt_test (pv_op (pv_var rfl) pv_c pr_gt)) (fun _ => ?_) fun _ => ?_
  rotate_left
  · refine u_next ⟨⟨_, rfl⟩, G7, [], n + 3, Ex.refl _, ?_, by omega, (fun x hx => (by cases hx)), by decide⟩
    exact g17.up (by omega)
  -- parameters drawn
  have hd0 := g17.at (p := p) (o := .dK ((Hr.mk nm pl fl rl []).kvs lp lf lr lq)) (by simp)
  have dg : ∀ {H'}, H' p = some (.dK ((Hr.mk nm pl fl rl []).kvs lp lf lr lq)) → DGet H' p (.str "plain") (some (.ref lp)) ∧ DGet H' p (.str "fingers") (some (.ref lf)) ∧ DGet H' p (.str "rows") (some (.ref lr)) ∧ DGet H' p (.str "params") (some (.ref lq)) := fun h => ⟨DGet.k (k := Sum.inr "plain") h, DGet.k (k := Sum.inr "fingers") h, DGet.k (k := Sum.inr "rows") h, DGet.k (k := Sum.inr "params") h⟩
  refine u_seq (u_asg (u_op ?_))
  refine t_cat g17 (pv_get (pv_var rfl) pv_c (dg hd0).1) (pv_get (pv_var rfl) pv_c (dg hd0).2.1) hlp hlf2 (by omega) fun p18 hp18 => ?_
  obtain ⟨g18, e18, h18⟩ := g17.addG (o := .lst ((pl ++ fl).map V.str)) hp18
  have hd1 := g18.at (p := p) (o := .dK ((Hr.mk nm pl fl rl []).kvs lp lf lr lq)) (by simp)
  refine pv_get (pv_var rfl) pv_c (dg hd1).2.2.1 _ (.inr (.inl ⟨p18, lr, _, _, rfl, rfl, g18.ex _ _ h18, g18.ex _ _ (e18 _ _ h14), by rw [List.length_map, List.length_map, List.length_append]; exact sz_of (by omega), fun le hle => ?_⟩))
  rw [← List.map_append]
  have g19 := g18.new (o := .lst ((pl ++ fl ++ rl).map V.str)) hle
  dsimp only [gName]
  have hU : ∀ x ∈ pl ++ fl ++ rl, x ∈ U7 := fun x hx => by
    simp only [List.mem_append] at hx
    rcases hx with (z | z) | z
    · exact pl_in (h := ⟨nm, pl, fl, rl, []⟩) hpl x z
    · exact fi_in (h := ⟨nm, pl, fl, rl, []⟩) hfl x z
    · exact ro_in (h := ⟨nm, pl, fl, rl, []⟩) hrl x z
  have hlen : (pl ++ fl ++ rl).length ≤ 7 := by simp only [List.length_append]; omega
  refine ⟨fun mm σ' H' => σ' = [some (.ref t), some (.int (k : Int)), some (.ref p), some (.ref le)] ∧ ∃ (pr ev : List Str) (m : Nat), Gn (upd G7 p18 (.lst ((pl ++ fl).map V.str))) (M ++ [(p, .dK ((Hr.mk nm pl fl rl []).kvs lp lf lr lq)), (lq, .lst (pr.map V.str)), (le, .lst (ev.map V.str))]) t m H' ∧ mm = ev.length ∧ m + 2 * ev.length ≤ n + 17 ∧ (∀ x ∈ pr, x ∈ pl ++ fl ++ rl) ∧ (∀ x ∈ ev, x ∈ pl ++ fl ++ rl) ∧ pr.length + ev.length ≤ 7,
    ⟨_, rfl, [], pl ++ fl ++ rl, n + 3, ?_, rfl, by omega, (fun x hx => (by cases hx)), (fun x hx => hx), by simpa using hlen⟩, ?_⟩
  · have e : M ++ [(p, HO.dK ((Hr.mk nm pl fl rl []).kvs lp lf lr lq)), (lq, .lst [])] ++ [(le, .lst ((pl ++ fl ++ rl).map V.str))] = M ++ [(p, HO.dK ((Hr.mk nm pl fl rl []).kvs lp lf lr lq)), (lq, .lst (([] : List Str).map V.str)), (le, .lst ((pl ++ fl ++ rl).map V.str))] := by simp
    rw [← e]
    exact g19.up (by omega)
  rintro mm σ' H' ⟨rfl, pr, ev, m, gm, rfl, hm, hpr, hev, hl⟩
  have dz : Dp K H' (.ref le) (.list (ev.map PyData.str)) := .lst (sq_of (gm.at (p := le) (o := .lst (ev.map V.str)) (by simp))) (dpAll_strs ev)
  have toMid : ∀ {H'' m'}, Gn (upd G7 p18 (.lst ((pl ++ fl).map V.str))) (M ++ [(p, .dK ((Hr.mk nm pl fl rl []).kvs lp lf lr lq)), (lq, .lst (pr.map V.str)), (le, .lst (ev.map V.str))]) t m' H'' → m' ≤ n + 18 → (∃ o3, [some (V.ref t), some (.int (k : Int)), some (.ref p), some (.ref le)] = [some (.ref t), some (.int (k : Int)), some (.ref p), o3]) ∧ ∃ (G' : Hp) (pr : List Str) (m : Nat), Ex G7 G' ∧ Gn G' (M ++ [(p, .dK ((Hr.mk nm pl fl rl []).kvs lp lf lr lq)), (lq, .lst (pr.map V.str))]) t m H'' ∧ m ≤ n + 18 ∧ (∀ x ∈ pr, x ∈ pl ++ fl ++ rl) ∧ pr.length ≤ 7 := by
    intro H'' m' g' hm'
    refine ⟨⟨_, rfl⟩, _, pr, m', e18, g'.sub ?_, hm', hpr, by omega⟩
    exact List.Sublist.append (List.Sublist.refl _) (List.Sublist.cons₂ _ (List.Sublist.cons₂ _ (List.nil_sublist _)))
  refine tt_andNe (pv_var rfl) (gm.at (p := le) (o := .lst (ev.map V.str)) (by simp)) (fun x hx => hU x (hev x hx)) (fun _ H20 e20 => u_false (toMid (gm.grow e20) (by omega))) fun hne H20 e20 => ?_
  · have g20 := gm.grow e20
    have hevl : 1 ≤ ev.length := List.length_pos_iff.mpr hne
    refine u_test ?_
    refine u_op ?_
    refine t_call (pa_cons (pv_var rfl) (pa_cons pv_c pa_nil)) (s_draw g20 (by omega) (by omega) fun H21 dd g21 dd0 dd1 => ?_)
    refine pv_c _ (pr_gt _ ⟨_, rfl, ?_⟩)
    by_cases hdd : 0 < dd
    rotate_left
    · rw [decide_eq_false hdd]
      exact u_false (toMid g21 (by omega))
    rw [decide_eq_true hdd]
    refine u_true ⟨fun σ'' H'' => ∃ m', m' < ev.length ∧ (σ'' = [some (.ref t), some (.int (k : Int)), some (.ref p), some (.ref le)] ∧ ∃ (pr ev : List Str) (m : Nat), Gn (upd G7 p18 (.lst ((pl ++ fl).map V.str))) (M ++ [(p, .dK ((Hr.mk nm pl fl rl []).kvs lp lf lr lq)), (lq, .lst (pr.map V.str)), (le, .lst (ev.map V.str))]) t m H'' ∧ m' = ev.length ∧ m + 2 * ev.length ≤ n + 17 ∧ (∀ x ∈ pr, x ∈ pl ++ fl ++ rl) ∧ (∀ x ∈ ev, x ∈ pl ++ fl ++ rl) ∧ pr.length + ev.length ≤ 7), fun _ _ z => z, ?_⟩
    have hd2 := g21.at (p := p) (o := .dK ((Hr.mk nm pl fl rl []).kvs lp lf lr lq)) (by simp)
    have hq2 := g21.at (p := lq) (o := .lst (pr.map V.str)) (by simp)
    have he2 := g21.at (p := le) (o := .lst (ev.map V.str)) (by simp)
    refine u_drop (u_bm ?_)
    refine pv_get (pv_var rfl) pv_c (dg hd2).2.2.2 _ ⟨.inl ⟨rfl, _, sq_of hq2⟩, u_cons (u_bm ?_)⟩
    refine pv_var (v := .ref le) rfl _ ⟨.inl ⟨rfl, _, sq_of he2⟩, ?_⟩
    refine u_cons (t_call (pa_cons (pv_var rfl) (pa_cons (pv_lenl (pv_var rfl) (sq_of he2)) pa_nil)) (s_draw g21 (by omega) (by rw [List.length_map]; omega) fun H22 di g22 di0 di1 => ?_))
    rw [List.length_map] at di1
    have hdi : di.toNat < ev.length := by omega
    have he3 := g22.at (p := le) (o := .lst (ev.map V.str)) (by simp)
    have hsi : seqIndex? di (ev.map V.str).length = some di.toNat := by
      unfold seqIndex?
      rw [List.length_map]
      have a1 : ¬ di < 0 := by omega
      simp only [a1, if_false]
      first
        | rw [if_pos (by omega)]
        | simp [di0, di1]
    refine pa_nil _ (.inr ⟨le, _, di, di.toNat, .str (ev[di.toNat]), rfl, rfl, he3, by omega, by omega, hsi, by rw [List.getElem?_map, List.getElem?_eq_getElem hdi]; rfl, ?_⟩)
    have g23 := g22.chg (p := le) (o := .lst (ev.map V.str)) (o' := .lst ((ev.map V.str).eraseIdx di.toNat)) (M ++ [(p, .dK ((Hr.mk nm pl fl rl []).kvs lp lf lr lq)), (lq, .lst (pr.map V.str))]) (c2 := []) (by simp)
    have hq3 := g23.at (p := lq) (o := .lst (pr.map V.str)) (by simp)
    refine pa_nil _ ⟨lq, _, .str (ev[di.toNat]), rfl, rfl, hq3, by rw [List.length_map]; exact sz_lt (by omega), ev.length - 1, by omega, rfl, pr ++ [ev[di.toNat]], ev.eraseIdx di.toNat, m + 2, ?_, ?_, ?_, ?_, ?_, ?_⟩
    · have g24 := g23.chg (p := lq) (o := .lst (pr.map V.str)) (o' := .lst (pr.map V.str ++ [.str (ev[di.toNat])])) (M ++ [(p, .dK ((Hr.mk nm pl fl rl []).kvs lp lf lr lq))]) (c2 := [(le, .lst ((ev.map V.str).eraseIdx di.toNat))]) (by simp)
      have e1 : pr.map V.str ++ [V.str (ev[di.toNat])] = (pr ++ [ev[di.toNat]]).map V.str := by simp
      have e2 : (ev.map V.str).eraseIdx di.toNat = (ev.eraseIdx di.toNat).map V.str := erase_map _ _
      rw [e1, e2] at g24
      rw [e1, e2]
      rw [List.append_assoc] at g24
      exact g24.up (by omega)
    · rw [List.length_eraseIdx_of_lt hdi]
    · rw [List.length_eraseIdx_of_lt hdi]; omega
    · intro x hx
      rcases List.mem_append.mp hx with z | z
      · exact hpr x z
      · rw [List.mem_singleton.mp z]; exact hev _ (List.getElem_mem hdi)
    · exact fun x hx => hev x (List.mem_of_mem_eraseIdx hx)
    · rw [List.length_append, List.length_eraseIdx_of_lt hdi]; simp only [List.length_singleton]; omega
end
end B72


set_option Elab.async false
set_option linter.all false
set_option maxRecDepth 100000
set_option maxHeartbeats 400000
/-! C8: a def's steps drawn. -/
namespace B72
open PySem L2 Evl R72
def stepD (s : Int × PA) : PyData := .tuple [.int s.1, s.2.d]
structure StepsOk (wide : Int) (h : Hr) (hs : List Hr) (st : List (Int × PA)) : Prop where
  ne : st ≠ []
  len : st.length ≤ 20
  up : (st.map (·.1)).Pairwise (· < ·)
  lab : ∀ s ∈ st, 0 ≤ s.1 ∧ s.1 ≤ 10000
  act : ∀ s ∈ st, ActOk wide h hs (fun j => j ∈ st.map (·.1)) s.2
  last : ∀ s, st.getLast? = some s → s.2.kind = "go" ∨ s.2.kind = "back"
section
variable {K : PySem.W.Frag} {w : World} {G G' H H' : Hp} {M : List (Addr × HO)} {t : Addr} {n : Nat} {Q : VK} {E : XK} {σ : L2.St} {D : Ends} {h o : Hr} {hs : List Hr} {v u : V} {j jo : Nat} {wide : Int}
theorem u_for {wi : TI} {g : TG} {tb : TS} (k : wi σ H fun J H1 => ∃ W : Nat → Nat → St → Hp → Prop, (∃ m, W 0 m σ H1) ∧ ∀ i m σ H, W i m σ H →
  (J.stop i H ∧ D.nx σ H) ∨ (J.go i H ∧ ∃ N : St → Hp → Prop, (∀ σ' H', N σ' H' → ∃ m', m' < m ∧ W (i + 1) m' σ' H') ∧ ∀ x H', J.yld i H x H' → g x σ H' fun σ2 H2 => tb { D with nx := N, ct := N, bk := D.nx } σ2 H2)) : tFor wi g tb D σ H := k
theorem u_rng1 {ta : TA} {R : It → Hp → Prop} (k : ta σ H fun vs H1 => ∃ j : Int, vs = [.int j] ∧ -(2 ^ 62) ≤ j ∧ j < 2 ^ 62 ∧ R (Itr 0 j.toNat) H1) : iRng1 ta σ H R := k
theorem cut1 (xs : List V) : cutV xs (some 1) none = xs.drop 1 := by
  unfold cutV
  have e : HT.sIx xs.length 0 (some 1) = min 1 xs.length := HT.sIx_nat xs.length 0 1
  rw [e]
  show (xs.drop (min 1 xs.length)).take (xs.length - min 1 xs.length) = xs.drop 1
  cases xs with
  | nil => rfl
  | cons x xs =>
    have e2 : min 1 (x :: xs).length = 1 := by simp only [List.length_cons]; omega
    rw [e2]
    simp
theorem dpA_app {xs ys : List V} {ds es : List PyData} (a : DpAll K G xs ds) (b : DpAll K G ys es) : DpAll K G (xs ++ ys) (ds ++ es) := by
  induction ds generalizing xs with
  | nil => rw [dpAll_nil a]; exact b
  | cons d ds ih =>
    obtain ⟨v, vs, rfl, a1, a2⟩ := dpAll_cons a
    exact .cons a1 (ih a2)
theorem u_and {t1 t2 : TT} {Q : Bool → Hp → Prop} (k : t1 σ H fun c H1 => if c = true then t2 σ H1 Q else Q false H1) : tAnd t1 t2 σ H Q := k
/-- the acts so far, in a list of their own -/
def AL (K : PySem.W.Frag) (G0 : Hp) (M : List (Addr × HO)) (t : Addr) (m : Nat) (wide : Int) (h : Hr) (hs : List Hr) (la : Addr) (as : List PA) (H : Hp) : Prop :=
  ∃ (G : Hp) (vs : List V), Ex G0 G ∧ Gn G (M ++ [(la, .lst vs)]) t m H ∧ DpAll K G vs (as.map PA.d) ∧ ∀ a ∈ as, ActOk wide h hs Raw a
abbrev sg (t : Addr) (v : V) (hl : Addr) (wide : Int) (r : List (Option V)) : L2.St := some (.ref t) :: some v :: some (.ref hl) :: some (.int wide) :: some (.int 8) :: r
theorem steps_loop {hl : Addr} {l0 : Addr} (g : Gn G (M ++ [(l0, .lst [])]) t n H) (hn : n ≤ 500000) (hd : HeadG G v h) (ok : HrOk j h) (hw : 1 ≤ wide ∧ wide ≤ 31) {A : TS} {r : List (Option V)}
    (kk : ∀ la as H', AL K G M t (n + 20) wide h hs la as H' → as.length ≤ 9 → A D (sg t v hl wide (some (.ref la) :: r)) H') :
    C8.tCut (tIfS (tAnd (tTest (tOp (rNeX K) (tDGet (tVar 1) (tC (.str "rows"))) (tLst tNil))) (tAnd (tTest (tOp (rNeX K) (tDGet (tVar 1) (tC (.str "fingers"))) (tLst tNil))) (tAnd (tTest (tOp rGtX (tCB (rLenX K) (tCons (tCall (sp__law_numbers K w) [] C8.E0 (tCons (tVar 1) tNil)) tNil)) (tC (.int 1)))) (tTest (tOp (rEqX K) (tCall (sp__law_draw K w) [] C8.E0 (tCons (tVar 0) (tCons (tC (.int 2)) tNil))) (tC (.int 0)))))))
      (tAsg (tCall (sp__law_loop K w) [] C8.E0 (tCons (tVar 0) (tCons (tVar 1) (tCons (tVar 3) tNil)))) (gName 5)) tNext) A D (sg t v hl wide (some (.ref l0) :: r)) H := by
  have b1 : ∀ l ∈ plains, 1 ≤ l.length ∧ l.length ≤ 3 := by decide
  have b2 : ∀ l ∈ fingersL, l.length ≤ 2 := by decide
  have b1 := b1 _ ok.plain
  have b2 := b2 _ ok.fingers
  refine u_cut ⟨fun σ' H' => ∃ la as, σ' = sg t v hl wide (some (.ref la) :: r) ∧ AL K G M t (n + 20) wide h hs la as H' ∧ as.length ≤ 9, ?_, fun σ' H' ⟨la, as, e, q, q2⟩ => by rw [e]; exact kk la as H' q q2⟩
  have stay : ∀ (H' : Hp) (m : Nat) (G' : Hp), Ex G G' → Gn G' (M ++ [(l0, .lst [])]) t m H' → m ≤ n + 20 → ∃ la as, sg t v hl wide (some (.ref l0) :: r) = sg t v hl wide (some (.ref la) :: r) ∧ AL K G M t (n + 20) wide h hs la as H' ∧ as.length ≤ 9 :=
    fun H' m G' e g hm => ⟨l0, [], rfl, ⟨G', [], e, g.up hm, .nil, fun a ha => by cases ha⟩, Nat.zero_le _⟩
  obtain ⟨lr, qr⟩ := hd.rows g.ex
  refine u_if ?_
  refine tt_andNe (pv_head g hd (pv_var rfl) qr) (g.ex _ _ (qr.elim fun _ z => z.2.2)) (ro_in ok.rows) (fun _ H1 e1 => u_false (u_next (stay H1 n G (Ex.refl G) (g.grow e1) (by omega)))) fun hr H1 e1 => ?_
  have g1 := g.grow e1
  obtain ⟨lf, qf⟩ := hd.fingers g1.ex
  refine tt_andNe (pv_head g1 hd (pv_var rfl) qf) (g1.ex _ _ (qf.elim fun _ z => z.2.2)) (fi_in ok.fingers) (fun _ H2 e2 => u_false (u_next (stay H2 n G (Ex.refl G) (g1.grow e2) (by omega)))) fun hf H2 e2 => ?_
  have g2 := g1.grow e2
  refine u_and ?_
  refine u_test ?_
  refine u_op ?_
  refine t_call (pa_cons (pv_var rfl) pa_nil) (s_numbers g2 hd (by omega) fun p3 hp3 => ?_)
  obtain ⟨g3, e3, h3⟩ := g2.addG (o := .lst ((h.plain ++ h.fingers).map V.str)) hp3
  refine pa_nil _ (.inl ⟨p3, _, rfl, .inl (sq_of (g3.ex _ _ h3)), ?_⟩)
  refine pv_c _ (pr_gt _ ⟨_, rfl, ?_⟩)
  rw [List.length_map]
  by_cases hnum : 1 < (((h.plain ++ h.fingers).length : Nat) : Int)
  rotate_left
  · rw [decide_eq_false hnum]
    exact u_false (u_false (u_next (stay _ n _ e3 g3 (by omega))))
  rw [decide_eq_true hnum]
  refine u_true ?_
  refine u_test ?_
  refine u_op ?_
  refine t_call (pa_cons (pv_var rfl) (pa_cons pv_c pa_nil)) (s_draw g3 (by omega) (by omega) fun H4 d g4 d0 d1 => ?_)
  refine pv_c _ (pr_eq rfl _ ⟨_, rfl, ?_⟩)
  by_cases hz : V.int d = .int 0
  rotate_left
  · rw [decide_eq_false hz]
    exact u_false (u_next (stay _ (n + 1) _ e3 g4 (by omega)))
  rw [decide_eq_true hz]
  refine u_true ?_
  refine u_asg ?_
  refine t_call (pa_cons (pv_var rfl) (pa_cons (pv_var rfl) (pa_cons (pv_var rfl) pa_nil))) (s_loop (hs := hs) g4 (by omega) (hd.mono e3) ok hr hf (by omega) hw fun G5 H5 p5 vs as e5 g5 dv oka hl => ?_)
  refine ⟨p5, as, rfl, ⟨G5, vs, e3.trans e5, (g5.sub ?_).up (by omega), dv, oka⟩, by omega⟩
  rw [List.append_assoc]
  exact List.Sublist.append (List.Sublist.refl _) (List.sublist_append_right _ _)
theorem AL.up {G0 : Hp} {m m' : Nat} {la : Addr} {as : List PA} (a : AL K G0 M t m wide h hs la as H) (hm : m ≤ m') : AL K G0 M t m' wide h hs la as H := by
  obtain ⟨G, vs, e, g, d, o⟩ := a
  exact ⟨G, vs, e, g.up hm, d, o⟩
/-- an act more -/
theorem AL.snoc {G0 G G2 : Hp} {m : Nat} {la : Addr} {as : List PA} {vs : List V} {x : V} {a : PA} (e : Ex G0 G) (d : DpAll K G vs (as.map PA.d)) (ok : ∀ a ∈ as, ActOk wide h hs Raw a) (e2 : Ex G G2) (g : Gn G2 (M ++ [(la, .lst vs)]) t m H) (dx : Dp K G2 x a.d) (oka : ActOk wide h hs Raw a) :
    AL K G0 M t m wide h hs la (as ++ [a]) (upd H la (.lst (vs ++ [x]))) := by
  refine ⟨G2, vs ++ [x], e.trans e2, g.chg (p := la) (o := .lst vs) (o' := .lst (vs ++ [x])) M (c2 := []) rfl, ?_, fun y hy => ?_⟩
  · rw [List.map_append]
    exact dpAll_snoc (dpAll_ex e2 _ d) dx
  · rcases List.mem_append.mp hy with z | z
    · exact ok y z
    · rw [List.mem_singleton.mp z]; exact oka
theorem steps_acts {hl : Addr} {hvs : List V} {la : Addr} {as : List PA} {m : Nat} (a : AL K G M t m wide h hs la as H) (hl9 : as.length ≤ 9) (hn : m ≤ 500000) (hd : HeadG G v h) (ok : HrOk j h) (hG : HsG K G hl hvs hs) (hw : 1 ≤ wide ∧ wide ≤ 31) {r : List (Option V)} {o6 : Option V}
    (kk : ∀ as' o H', AL K G M t (m + 250) wide h hs la as' H' → as'.length ≤ 17 → D.nx (sg t v hl wide (some (.ref la) :: o :: r)) H') :
    tFor (iRng1 (tCons (tOp (rAddX K) (tC (.int 1)) (tCall (sp__law_draw K w) [] C8.E0 (tCons (tVar 0) (tCons (tVar 4) tNil)))) tNil)) (gName 6) (tDrop (tBM K "list" rAppend (tVar 5) (tCons (tCall (sp__law_act K w) [] C8.E0 (tCons (tVar 0) (tCons (tVar 1) (tCons (tVar 2) (tCons (tVar 3) tNil))))) tNil))) D (sg t v hl wide (some (.ref la) :: o6 :: r)) H := by
  obtain ⟨G1, vs, e1, g1, d1, o1⟩ := a
  refine u_for ?_
  refine u_rng1 ?_
  refine u_cons ?_
  refine u_op ?_
  refine pv_c _ ?_
  refine t_call (pa_cons (pv_var rfl) (pa_cons (pv_var rfl) pa_nil)) (s_draw g1 (by omega) (by decide) fun H2 d g2 d0 d8 => ?_)
  refine pr_add _ (pa_nil _ ⟨_, rfl, by omega, by omega, ?_⟩)
  refine for_range (lo := 0) (n := (1 + d).toNat) (fun i σ' H' => ∃ as' o, σ' = sg t v hl wide (some (.ref la) :: o :: r) ∧ AL K G M t (m + 1 + 30 * i) wide h hs la as' H' ∧ as'.length ≤ 9 + i) ⟨as, o6, rfl, ⟨G1, vs, e1, g2.up (by omega), d1, o1⟩, by omega⟩ (fun i σ' H' hi q => ?_) fun σ' H' q => ?_
  · obtain ⟨as', o, rfl, ⟨G3, vs3, e3, g3, d3, o3⟩, hl3⟩ := q
    have hl0 := g3.at (p := la) (o := .lst vs3) (by simp)
    refine u_drop ?_
    refine u_bm ?_
    refine pv_var (v := .ref la) rfl _ ⟨.inl ⟨rfl, _, sq_of hl0⟩, ?_⟩
    refine u_cons ?_
    refine t_call (pa_cons (pv_var rfl) (pa_cons (pv_var rfl) (pa_cons (pv_var rfl) (pa_cons (pv_var rfl) pa_nil)))) (s_act (hs := hs) g3 (by omega) (hd.mono e3) ok (hG.mono e3) hw fun G4 H4 x a e4 g4 dx oka => ?_)
    have hvl : vs3.length = as'.length := by rw [dpAll_len d3, List.length_map]
    refine pa_nil _ ⟨la, vs3, x, rfl, rfl, g4.at (p := la) (o := .lst vs3) (by simp), sz_lt (by omega), as' ++ [a], _, rfl, AL.snoc e3 d3 o3 e4 (g4.up (by omega)) dx oka, by rw [List.length_append]; simp only [List.length_singleton]; omega⟩
  · obtain ⟨as', o, rfl, q, hl3⟩ := q
    exact kk as' o H' (q.up (by omega)) (by omega)
theorem steps_last {hl : Addr} {la : Addr} {as : List PA} {m : Nat} (a : AL K G M t m wide h hs la as H) (hl17 : as.length ≤ 17) (hn : m ≤ 500000) (hd : HeadG G v h) (ok : HrOk j h) {r : List (Option V)} {o6 o7 : Option V} {A : TS}
    (kk : ∀ as' o o' H', AL K G M t (m + 5) wide h hs la as' H' → as'.length ≤ 18 → (∃ (l : List PA) (z : PA), as' = l ++ [z] ∧ (z.kind = "go" ∨ z.kind = "back")) → A D (sg t v hl wide (some (.ref la) :: o :: o' :: r)) H') :
    tSeq (tAsg (tTup (tCons (tC (.str "back")) (tCons (tCall (sp__law_pick K w) [] C8.E0 (tCons (tVar 0) (tCons (tCall (sp__law_numbers K w) [] C8.E0 (tCons (tVar 1) tNil)) tNil))) tNil))) (gName 7)) (C8.tCut (tIfS (tTest (tOp (rEqX K) (tCall (sp__law_draw K w) [] C8.E0 (tCons (tVar 0) (tCons (tC (.int 6)) tNil))) (tC (.int 0)))) (tAsg (tTup (tCons (tC (.str "go")) (tCons (tCall (sp__law_draw K w) [] C8.E0 (tCons (tVar 0) (tCons (tC (.int 30)) tNil))) tNil))) (gName 7)) tNext)
      (tSeq (tDrop (tBM K "list" rAppend (tVar 5) (tCons (tVar 7) tNil))) A)) D (sg t v hl wide (some (.ref la) :: o6 :: o7 :: r)) H := by
  obtain ⟨G1, vs, e1, g1, d1, o1⟩ := a
  refine u_seq (u_asg (u_tup (u_cons (pv_c _ (u_cons ?_)))))
  refine pick_number g1 (by omega) (hd.mono e1) ok (fun _ => pv_var rfl) (pv_var rfl) fun G2 H2 x e2 g2 mx => ?_
  refine pa_nil _ ⟨sz_of (by show 2 ≤ 100000; decide), fun p3 hp3 => ?_⟩
  obtain ⟨g3, e3, h3⟩ := g2.addG (o := .tup [.str "back", .str x]) hp3
  dsimp only [gName]
  have go : ∀ (H' : Hp) (G' : Hp) (p : Addr) (a : PA), Ex (upd G2 p3 (.tup [.str "back", .str x])) G' → Gn G' (M ++ [(la, .lst vs)]) t (m + 5) H' → Dp K G' (.ref p) a.d → ActOk wide h hs Raw a → (a.kind = "go" ∨ a.kind = "back") →
      tSeq (tDrop (tBM K "list" rAppend (tVar 5) (tCons (tVar 7) tNil))) A D (sg t v hl wide (some (.ref la) :: o6 :: some (.ref p) :: r)) H' := by
    intro H' G' p a e' g' da oka hk
    have hvl : vs.length = as.length := by rw [dpAll_len d1, List.length_map]
    refine u_seq (u_drop (u_bm ?_))
    refine pv_var (v := .ref la) rfl _ ⟨.inl ⟨rfl, _, sq_of (g'.at (p := la) (o := .lst vs) (by simp))⟩, ?_⟩
    refine u_cons (pv_var (v := .ref p) rfl _ (pa_nil _ ⟨la, vs, .ref p, rfl, rfl, g'.at (p := la) (o := .lst vs) (by simp), sz_lt (by omega), ?_⟩))
    exact kk (as ++ [a]) _ _ _ (AL.snoc e1 d1 o1 ((e2.trans e3).trans e') g' da oka) (by rw [List.length_append]; simp only [List.length_singleton]; omega) ⟨as, a, rfl, hk⟩
  refine u_cut ⟨fun σ' H' => ∃ (G' : Hp) (p : Addr) (a : PA), σ' = sg t v hl wide (some (.ref la) :: o6 :: some (.ref p) :: r) ∧ Ex (upd G2 p3 (.tup [.str "back", .str x])) G' ∧ Gn G' (M ++ [(la, .lst vs)]) t (m + 5) H' ∧ Dp K G' (.ref p) a.d ∧ ActOk wide h hs Raw a ∧ (a.kind = "go" ∨ a.kind = "back"), ?_, fun σ' H' ⟨G', p, a, q0, q1, q2, q3, q4, q5⟩ => by rw [q0]; exact go H' G' p a q1 q2 q3 q4 q5⟩
  have db : Dp K (upd G2 p3 (.tup [.str "back", .str x])) (.ref p3) (PA.plain (.back x)).d := .tup (st_of h3) (.cons (.str _) (.cons (.str _) .nil))
  refine u_if (u_test (u_op ?_))
  refine t_call (pa_cons (pv_var rfl) (pa_cons pv_c pa_nil)) (s_draw g3 (by omega) (by decide) fun H4 d g4 d0 d8 => ?_)
  refine pv_c _ (pr_eq rfl _ ⟨_, rfl, ?_⟩)
  by_cases hz : V.int d = .int 0
  rotate_left
  · rw [decide_eq_false hz]
    exact u_false (u_next ⟨_, p3, .plain (.back x), rfl, Ex.refl _, g4.up (by omega), db, mx, .inr rfl⟩)
  rw [decide_eq_true hz]
  refine u_true ?_
  refine u_asg (u_tup (u_cons (pv_c _ (u_cons ?_))))
  refine t_call (pa_cons (pv_var rfl) (pa_cons pv_c pa_nil)) (s_draw g4 (by omega) (by decide) fun H5 lb g5 l0 l1 => ?_)
  refine pa_nil _ ⟨sz_of (by show 2 ≤ 100000; decide), fun p6 hp6 => ?_⟩
  obtain ⟨g6, e6, h6⟩ := g5.addG (o := .tup [.str "go", .int lb]) hp6
  exact ⟨_, p6, .plain (.go lb), rfl, e6, g6.up (by omega), .tup (st_of h6) (.cons (.str _) (.cons (.int _) .nil)), by show Raw lb; unfold Raw; omega, .inl rfl⟩
/-- acts and labels -/
def LL (K : PySem.W.Frag) (G0 : Hp) (M : List (Addr × HO)) (t : Addr) (m : Nat) (wide : Int) (h : Hr) (hs : List Hr) (la : Addr) (as : List PA) (lb : Addr) (ls : List Int) (H : Hp) : Prop :=
  ∃ (G : Hp) (vs : List V), Ex G0 G ∧ Gn G (M ++ [(la, .lst vs), (lb, .lst (ls.map V.int))]) t m H ∧ DpAll K G vs (as.map PA.d) ∧ ∀ a ∈ as, ActOk wide h hs Raw a
theorem steps_labels {hl : Addr} {la : Addr} {as : List PA} {m : Nat} (a : AL K G M t m wide h hs la as H) (hne : as ≠ []) (hl18 : as.length ≤ 18) (hn : m ≤ 500000) {r : List (Option V)} {o6 o7 o8 o9 : Option V} {A : TS}
    (kk : ∀ lb ls o H', LL K G M t (m + 50) wide h hs la as lb ls H' → ls.length = as.length → ls.Pairwise (· < ·) → (∀ y ∈ ls, 0 ≤ y ∧ y ≤ 10000) → A D (sg t v hl wide (some (.ref la) :: o6 :: o7 :: some (.ref lb) :: o :: r)) H') :
    tSeq (tAsg (tLst (tCons (tCall (sp__law_draw K w) [] C8.E0 (tCons (tVar 0) (tCons (tC (.int 12)) tNil))) tNil)) (gName 8)) (tSeq (tFor (iSeqX K (tSl (rSlX K) (tVar 5) (tPart (tC (.int 1))) tNoPart)) (gName 9) (tDrop (tBM K "list" rAppend (tVar 8) (tCons (tOp (rAddX K) (tOp (rAddX K) (tOp (rIx K) (tVar 8) (tUn rNegX (tC (.int 1)))) (tC (.int 1))) (tCall (sp__law_draw K w) [] C8.E0 (tCons (tVar 0) (tCons (tCall (sp__law_pick K w) [] C8.E0 (tCons (tVar 0) (tCons (tLst (tCons (tC (.int 1)) (tCons (tC (.int 10)) (tCons (tC (.int 300)) tNil)))) tNil))) tNil)))) tNil)))) A)
      D (sg t v hl wide (some (.ref la) :: o6 :: o7 :: o8 :: o9 :: r)) H := by
  obtain ⟨G1, vs, e1, g1, d1, o1⟩ := a
  have hvl : vs.length = as.length := by rw [dpAll_len d1, List.length_map]
  have hal : 1 ≤ as.length := List.length_pos_iff.mpr hne
  refine u_seq (u_asg (u_lst (u_cons ?_)))
  refine t_call (pa_cons (pv_var rfl) (pa_cons pv_c pa_nil)) (s_draw g1 (by omega) (by decide) fun H2 d g2 d0 d12 => ?_)
  refine pa_nil _ ⟨sz_of (by show 1 ≤ 100000; decide), fun lb hlb => ?_⟩
  have g3 := g2.new (o := .lst [.int d]) hlb
  dsimp only [gName]
  refine u_seq (u_for (u_iseq (u_slL ?_)))
  refine pv_var (v := .ref la) rfl _ (u_part (pv_c _ ⟨1, rfl, ?_⟩))
  refine (?_ : tNoPart _ _ _)
  refine u_np (.inl ⟨la, vs, rfl, sq_of (g3.at (p := la) (o := .lst vs) (by simp)), fun q hq => ⟨q, rfl, .inl ?_⟩⟩)
  rw [cut1]
  obtain ⟨g4, e4, h4⟩ := g3.addG (o := .lst (vs.drop 1)) hq
  refine ⟨_, sq_of (g4.ex _ _ h4), ?_⟩
  refine for_list (xs := vs.drop 1) (fun i σ' H' => ∃ o l' x, σ' = sg t v hl wide (some (.ref la) :: o6 :: o7 :: some (.ref lb) :: o :: r) ∧ (∃ G', Ex (upd G1 q (.lst (vs.drop 1))) G' ∧ Gn G' (M ++ [(la, .lst vs), (lb, .lst ((l' ++ [x]).map V.int))]) t (m + 1 + 2 * i) H') ∧ l'.length = i ∧ (l' ++ [x]).Pairwise (· < ·) ∧ (∀ y ∈ l' ++ [x], 0 ≤ y ∧ y ≤ x) ∧ x ≤ 12 + 301 * (i : Int))
    ⟨o9, [], d, rfl, ⟨_, Ex.refl _, ?_⟩, rfl, by simp, (fun y hy => by rw [List.mem_singleton.mp hy]; omega), by omega⟩ (fun i σ' H' _ z => ?_) (fun i x0 σ' H' hx0 z => ?_) fun σ' H' z => ?_
  · have ee : M ++ [(la, HO.lst vs)] ++ [(lb, .lst [.int d])] = M ++ [(la, HO.lst vs), (lb, .lst (([] ++ [d] : List Int).map V.int))] := by simp
    rw [ee] at g4
    exact g4.up (by omega)
  · obtain ⟨o, l', x, _, ⟨G', e', g'⟩, _⟩ := z
    exact sq_of (g'.ex _ _ (e' _ _ h4))
  · obtain ⟨o, l', x, rfl, ⟨G', e', g'⟩, q1, q2, q3, q4⟩ := z
    have hi : i < vs.length - 1 := by have := (List.getElem?_eq_some_iff.mp hx0).1; rw [List.length_drop] at this; exact this
    have hlb0 := g'.at (p := lb) (o := .lst ((l' ++ [x]).map V.int)) (by simp)
    have hx := q3 x (by simp)
    dsimp only [gName]
    refine u_drop (u_bm ?_)
    refine pv_var (v := .ref lb) rfl _ ⟨.inl ⟨rfl, _, sq_of hlb0⟩, ?_⟩
    refine u_cons (u_op ?_)
    refine pv_op (pv_op (pv_var (v := .ref lb) rfl) (pv_neg pv_c) (pr_ixl (v := .int x) (sq_of hlb0) (by rw [List.map_append]; exact atI_last _ _))) pv_c pr_add _ ?_
    refine u_call (u_cons (pv_var (v := .ref t) rfl _ (u_cons (u_call (u_cons (pv_var (v := .ref t) rfl _ (u_cons ?_)))))))
    refine t_lst (pa_cons pv_c (pa_cons pv_c (pa_cons pv_c pa_nil))) (by show 3 ≤ 100000; decide) fun p5 hp5 => ?_
    obtain ⟨g5, e5, h5⟩ := g'.addG (o := .lst [.int 1, .int 10, .int 300]) hp5
    refine pa_nil _ (s_pick g5 (by omega) (sq_of h5) (by simp) (by show 3 < 1000000; decide) fun H6 u6 g6 hu => ?_)
    obtain ⟨w6, rfl, w1, w2⟩ : ∃ i : Int, u6 = .int i ∧ 0 < i ∧ i ≤ 300 := by
      have hu : u6 = .int 1 ∨ u6 = .int 10 ∨ u6 = .int 300 := by simpa using hu
      rcases hu with z | z | z <;> exact ⟨_, z, by decide, by decide⟩
    refine pa_nil _ (s_draw g6 (by omega) (by omega) fun H7 dd g7 dd0 dd1 => ?_)
    refine pr_add _ (pa_nil _ ⟨lb, _, _, rfl, rfl, g7.at (p := lb) (o := .lst ((l' ++ [x]).map V.int)) (by simp), by rw [List.length_map, List.length_append]; exact sz_lt (by simp only [List.length_singleton]; omega), ?_⟩)
    have g8 := g7.chg (p := lb) (o := .lst ((l' ++ [x]).map V.int)) (o' := .lst ((l' ++ [x]).map V.int ++ [.int (x + 1 + dd)])) (M ++ [(la, .lst vs)]) (c2 := []) (by simp)
    have ee : (l' ++ [x]).map V.int ++ [.int (x + 1 + dd)] = ((l' ++ [x]) ++ [x + 1 + dd]).map V.int := by simp
    rw [ee] at g8 ⊢
    rw [List.append_assoc M] at g8
    refine ⟨_, l' ++ [x], x + 1 + dd, rfl, ⟨_, e'.trans e5, g8.up (by omega)⟩, by rw [List.length_append, q1]; rfl, ?_, fun y hy => ?_, by omega⟩
    · refine List.pairwise_append.mpr ⟨q2, by simp, fun a ha b hb => ?_⟩
      rw [List.mem_singleton.mp hb]
      have := q3 a ha
      omega
    · rcases List.mem_append.mp hy with z | z
      · have := q3 y z; omega
      · rw [List.mem_singleton.mp z]; omega
  · obtain ⟨o, l', x, rfl, ⟨G', e', g'⟩, q1, q2, q3, q4⟩ := z
    rw [List.length_drop] at q1 q4 g'
    refine kk lb (l' ++ [x]) o H' ⟨G', vs, e1.trans (e4.trans e'), g'.up (by omega), dpAll_ex (e4.trans e') _ d1, o1⟩ (by rw [List.length_append]; simp only [List.length_singleton]; omega) q2 fun y hy => by have := q3 y hy; omega
end
end B72


set_option Elab.async false
set_option linter.all false
set_option maxRecDepth 100000
set_option maxHeartbeats 400000
/-! C9: acts and labels put together. -/
namespace B72
open PySem L2 Evl R72
/-- data in a tuple without a dict of its own -/
def FzD (K : PySem.W.Frag) (H : Hp) (p : Addr) (ds : List PyData) : Prop := ∃ sv, Fz H p sv ∧ DpAll K H sv ds
section
variable {K : PySem.W.Frag} {w : World} {G G' H H' : Hp} {M : List (Addr × HO)} {t : Addr} {n : Nat} {Q : VK} {E : XK} {σ : L2.St} {D : Ends} {h o : Hr} {hs : List Hr} {v u : V} {j jo : Nat} {wide : Int}
theorem f_zipL {g : TG} {tb : TS} {ta : TA} {a b : Addr} {xs ys : List V} (h : Pa ta σ H [.ref a, .ref b]) (hx : SqL K H a xs) (hy : SqL K H b ys) (hl : xs.length = ys.length) (Pv : Nat → L2.St → Hp → Prop) (h0 : Pv 0 σ H) (hq : ∀ i σ H, Pv i σ H → SqL K H a xs ∧ SqL K H b ys)
    (hs : ∀ (i : Nat) (x y : V) (T : Addr) (σ : L2.St) (H : Hp), xs[i]? = some x → ys[i]? = some y → Pv i σ H → H T = none → g (.ref T) σ (upd H T (.tup [x, y])) fun σ2 H2 => tb { D with nx := Pv (i + 1), ct := Pv (i + 1), bk := D.nx } σ2 H2) (hd : ∀ σ H, Pv xs.length σ H → D.nx σ H) :
    tFor (iZipX K ta) g tb D σ H := h _ (.inl ⟨a, b, xs, ys, rfl, .inl ⟨hx, hy, RZ.for_zipL hl Pv h0 hq hs hd⟩⟩)
theorem act_split {a : PA} (ok : ActOk wide h hs Raw a) : (∃ s g t j, a = .plain (.iff s g t j)) ∨ (∃ j, a = .plain (.go j)) ∨ (inV (.str a.kind) [V.str "if", .str "go"] = false ∧ ∀ J, ActOk wide h hs J a) := by
  have kin : ∀ k : Str, k ∈ ([("set" : Str), "add", "plus", "minus", "times", "over", "rest", "mid", "row", "get", "put", "length", "ask", "tell", "check"] : List Str) ∨ k = "call" ∨ k = "back" → inV (.str k) [V.str "if", .str "go"] = false := by
    intro k hk
    simp only [List.mem_cons, List.mem_nil_iff, or_false] at hk
    rcases hk with (z | z | z | z | z | z | z | z | z | z | z | z | z | z | z) | z | z <;> subst z <;> decide
  cases a with
  | call x f gs => exact .inr (.inr ⟨kin _ (by simp [PA.kind]), fun J => ok⟩)
  | plain a =>
    cases a with
    | iff s g t j => exact .inl ⟨s, g, t, j, rfl⟩
    | go j => exact .inr (.inl ⟨j, rfl⟩)
    | call => exact ok.elim
    | sum k x y z =>
      refine .inr (.inr ⟨kin _ ?_, fun J => ok⟩)
      have hk : k = "add" ∨ k = "plus" ∨ k = "minus" ∨ k = "times" := by simpa [sumKs] using ok.1
      show k ∈ _ ∨ _
      rcases hk with z | z | z | z <;> subst z <;> simp
    | over k x y z =>
      refine .inr (.inr ⟨kin _ ?_, fun J => ok⟩)
      show k ∈ _ ∨ _
      rcases ok.1 with z | z <;> subst z <;> simp
    | _ => exact .inr (.inr ⟨kin _ (by simp [PA.kind, RA.kind]), fun J => ok⟩)
/-- an act's label told by where it points among the labels -/
theorem relabel {te tl : TE} {lb pa : Addr} {ls : List Int} {init : List V} {j : Int} (hte : ∀ {H'}, Ex H H' → Pv te σ H' (.ref pa)) (htl : ∀ {H'}, Ex H H' → Pv tl σ H' (.ref lb)) (hlb : H lb = some (.lst (ls.map V.int))) (hpa : SqT K H pa (init ++ [.int j])) (hi : init ≠ []) (hl : init.length ≤ 10) (hls : ls ≠ [])
    (k : ∀ H1 p lab, Ex H H1 → H1 p = none → lab ∈ ls → Q (.ref p) (upd H1 p (.tup (init ++ [.int lab])))) :
    tOp (rAddX K) (tSl (rSlX K) te tNoPart (tPart (tUn rNegX (tC (.int 1))))) (tTup (tCons (tOp (rIx K) tl (tOp rModX (tOp (rIx K) te (tUn rNegX (tC (.int 1)))) (tCB (rLenX K) (tCons tl tNil)))) tNil)) σ H Q := by
  have hlen : 0 < ls.length := List.length_pos_iff.mpr hls
  refine u_op (u_slL (hte (Ex.refl H) _ (u_np (u_part (pv_neg pv_c _ ⟨_, rfl, ?_⟩)))))
  have il : 0 < init.length := List.length_pos_iff.mpr hi
  have s1 : HT.sIx (init ++ [V.int j]).length 0 none = 0 := rfl
  have s2 : HT.sIx (init ++ [V.int j]).length (init ++ [V.int j]).length (some (-1)) = init.length := by
    unfold HT.sIx
    have e : (init ++ [V.int j]).length = init.length + 1 := by rw [List.length_append]; rfl
    rw [e]
    show (if (-1 : Int) < 0 then ((-1 : Int) + ((init.length + 1 : Nat) : Int)).toNat else _) = _
    rw [if_pos (by decide)]
    omega
  have ec : cutV (init ++ [V.int j]) none (some (-1)) = init := by
    unfold cutV
    rw [s1, s2]
    simp
  refine .inr ⟨pa, _, rfl, hpa, fun z => ?_, fun _ p hp => ?_⟩
  · exfalso
    have z2 := z.2
    rw [s2, List.length_append] at z2
    simp only [List.length_singleton] at z2
    omega
  · rw [ec]
    have e1 := Ex.new (o := HO.tup init) hp
    have m1 := Int.fmod_nonneg_of_pos j (b := (ls.length : Int)) (by omega)
    have m2 := Int.fmod_lt_of_pos j (b := (ls.length : Int)) (by omega)
    have hd : (j.fmod (ls.length : Int)).toNat < ls.length := by omega
    have hat : atI (ls.map V.int) (j.fmod ((ls.map V.int).length : Int)) = some (.int (ls[(j.fmod (ls.length : Int)).toNat])) := by
      rw [List.length_map, atI_nat m1 (by rw [List.length_map]; exact m2), List.getElem?_map, List.getElem?_eq_getElem hd]; rfl
    refine u_tup (u_cons (pv_op (htl e1) (pv_op (pv_op (hte e1) (pv_neg pv_c) (pr_ixt (ex_t e1 hpa) (atI_last _ _))) (pv_lenl (htl e1) (sq_of (e1 _ _ hlb))) (pr_mod (by rw [List.length_map]; omega))) (pr_ixl (sq_of (e1 _ _ hlb)) hat) _ ?_))
    refine pa_nil _ ⟨sz_of (by show 1 ≤ 100000; decide), fun p2 hp2 => ?_⟩
    have e2 := Ex.new (o := HO.tup [.int (ls[(j.fmod (ls.length : Int)).toNat])]) hp2
    refine .inr (.inr ⟨p, p2, init, _, rfl, rfl, st_of (e2 _ _ upd_same), st_of upd_same, sz_of (by show init.length + 1 ≤ 100000; omega), fun z => absurd z hi, fun _ z => by simp at z, fun _ _ p3 hp3 => ?_⟩)
    exact k _ p3 _ (e1.trans e2) hp3 (List.getElem_mem hd)
theorem steps_zip {hl : Addr} {la lb : Addr} {as : List PA} {ls : List Int} {m : Nat} (a : LL K G M t m wide h hs la as lb ls H) (hne : as ≠ []) (hl18 : as.length ≤ 18) (hll : ls.length = as.length) (hup : ls.Pairwise (· < ·)) (hlv : ∀ y ∈ ls, 0 ≤ y ∧ y ≤ 10000) (hlast : ∃ (l : List PA) (z : PA), as = l ++ [z] ∧ (z.kind = "go" ∨ z.kind = "back")) {o6 o7 o9 o10 o11 : Option V}
    (kk : ∀ G' H' p st, Ex G G' → Gn G' M t m H' → FzD K G' p (st.map stepD) → StepsOk wide h hs st → D.rt (.ref p) H') :
    tSeq (tAsg (tLst tNil) (gName 10)) (tSeq (tFor (iZipX K (tCons (tVar 8) (tCons (tVar 5) tNil))) (gTup K 2 (gCons (gName 11) (gCons (gName 9) gNil))) (C8.tCut (tIfS (tTest (tOp (rInX K false) (tOp (rIx K) (tVar 9) (tC (.int 0))) (tTup (tCons (tC (.str "if")) (tCons (tC (.str "go")) tNil)))))
      (tAsg (tOp (rAddX K) (tSl (rSlX K) (tVar 9) tNoPart (tPart (tUn rNegX (tC (.int 1))))) (tTup (tCons (tOp (rIx K) (tVar 8) (tOp rModX (tOp (rIx K) (tVar 9) (tUn rNegX (tC (.int 1)))) (tCB (rLenX K) (tCons (tVar 8) tNil)))) tNil))) (gName 9)) tNext) (tDrop (tBM K "list" rAppend (tVar 10) (tCons (tTup (tCons (tVar 11) (tCons (tVar 9) tNil))) tNil)))))
      (tRet (tCB (rTupX K) (tCons (tVar 10) tNil)))) D (sg t v hl wide [some (.ref la), o6, o7, some (.ref lb), o9, o10, o11]) H := by
  obtain ⟨G1, vs, e1, g1, d1, o1⟩ := a
  have hvl : vs.length = as.length := by rw [dpAll_len d1, List.length_map]
  have hlne : ls ≠ [] := fun z => by rw [z] at hll; exact hne (List.eq_nil_of_length_eq_zero hll.symm)
  refine u_seq (a_asgL pa_nil (by decide) fun lf hlf => ?_)
  have g2 := g1.new (o := .lst []) hlf
  have ee : M ++ [(la, HO.lst vs), (lb, .lst (ls.map V.int))] ++ [(lf, .lst [])] = M ++ [(la, .lst vs), (lb, .lst (ls.map V.int)), (lf, .lst [])] := by simp
  rw [ee] at g2
  dsimp only [gName]
  refine u_seq (f_zipL (a := lb) (b := la) (xs := ls.map V.int) (ys := vs) (pa_cons (pv_var rfl) (pa_cons (pv_var rfl) pa_nil)) (sq_of (g2.at (p := lb) (o := .lst (ls.map V.int)) (by simp))) (sq_of (g2.at (p := la) (o := .lst vs) (by simp))) (by rw [List.length_map]; omega)
    (fun i σ' H' => ∃ (o9 o11 : Option V) (G' : Hp) (fv : List V) (st : List (Int × PA)), σ' = sg t v hl wide [some (.ref la), o6, o7, some (.ref lb), o9, some (.ref lf), o11] ∧ Ex G1 G' ∧ Gn G' (M ++ [(la, .lst vs), (lb, .lst (ls.map V.int)), (lf, .lst fv)]) t m H' ∧ DpAll K G' fv (st.map stepD) ∧ st.map (·.1) = ls.take i ∧ (∀ s ∈ st, ActOk wide h hs (fun j => j ∈ ls) s.2) ∧ st.map (·.2.kind) = (as.take i).map (·.kind))
    ⟨o9, o11, G1, [], [], rfl, Ex.refl _, g2, .nil, rfl, (fun s hs => (by cases hs)), rfl⟩ (fun i σ' H' q => ?_) (fun i x y T σ' H' hx hy q hT => ?_) fun σ' H' q => ?_)
  · obtain ⟨_, _, G', fv, st, _, _, g', _⟩ := q
    exact ⟨sq_of (g'.at (p := lb) (o := .lst (ls.map V.int)) (by simp)), sq_of (g'.at (p := la) (o := .lst vs) (by simp))⟩
  · obtain ⟨p9, p11, G', fv, st, rfl, e', g', q1, q2, q3, q4⟩ := q
    rw [List.getElem?_map] at hx
    obtain ⟨l, hli, rfl⟩ := Option.map_eq_some_iff.mp hx
    have hi : i < ls.length := (List.getElem?_eq_some_iff.mp hli).1
    have hai : i < as.length := by omega
    obtain ⟨y', hy', dy⟩ := dpAll_get d1 (i := i) (d := (as[i]).d) (by rw [List.getElem?_map, List.getElem?_eq_getElem hai]; rfl)
    rw [hy] at hy'
    cases hy'
    have oka := o1 _ (List.getElem_mem hai)
    have hasi : as[i]? = some as[i] := List.getElem?_eq_getElem hai
    generalize as[i] = a at dy oka hasi
    have fl : fv.length = st.length := by rw [dpAll_len q1, List.length_map]
    have stl : st.length = i := by have := congrArg List.length q2; rw [List.length_map, List.length_take] at this; omega
    have eT := Ex.new (o := .tup [.int l, y]) hT
    have g3 := g'.grow eT
    refine g_n2 (st_of upd_same) ?_
    have dy := dp_ex e' _ dy
    obtain ⟨pa, xs, rfl, hpa, dxs⟩ := dp_tup dy
    obtain ⟨k0, xr, rfl, dk, dxr⟩ := dpAll_cons dxs
    cases dp_str dk
    -- behind the cut
    have go : ∀ (H'' : Hp) (G'' : Hp) (pb : Addr) (b : PA), Ex G' G'' → Gn G'' (M ++ [(la, .lst vs), (lb, .lst (ls.map V.int)), (lf, .lst fv)]) t m H'' → Dp K G'' (.ref pb) b.d → ActOk wide h hs (fun j => j ∈ ls) b → b.kind = a.kind →
        tDrop (tBM K "list" rAppend (tVar 10) (tCons (tTup (tCons (tVar 11) (tCons (tVar 9) tNil))) tNil)) { D with nx := fun σ' H' => ∃ (o9 o11 : Option V) (G' : Hp) (fv : List V) (st : List (Int × PA)), σ' = sg t v hl wide [some (.ref la), o6, o7, some (.ref lb), o9, some (.ref lf), o11] ∧ Ex G1 G' ∧ Gn G' (M ++ [(la, .lst vs), (lb, .lst (ls.map V.int)), (lf, .lst fv)]) t m H' ∧ DpAll K G' fv (st.map stepD) ∧ st.map (·.1) = ls.take (i + 1) ∧ (∀ s ∈ st, ActOk wide h hs (fun j => j ∈ ls) s.2) ∧ st.map (·.2.kind) = (as.take (i + 1)).map (·.kind) }
          (sg t v hl wide [some (.ref la), o6, o7, some (.ref lb), some (.ref pb), some (.ref lf), some (.int l)]) H'' := by
      intro H'' G'' pb b e'' g'' db okb hk
      refine u_drop (u_bm ?_)
      refine pv_var (v := .ref lf) rfl _ ⟨.inl ⟨rfl, _, sq_of (g''.at (p := lf) (o := .lst fv) (by simp))⟩, ?_⟩
      refine u_cons (t_tup (pa_cons (pv_var rfl) (pa_cons (pv_var rfl) pa_nil)) (by show 2 ≤ 100000; decide) fun p5 hp5 => ?_)
      obtain ⟨g5, e5, h5⟩ := g''.addG (o := .tup [.int l, .ref pb]) hp5
      refine pa_nil _ ⟨lf, fv, .ref p5, rfl, rfl, g5.at (p := lf) (o := .lst fv) (by simp), sz_lt (by omega), _, _, _, fv ++ [.ref p5], st ++ [(l, b)], rfl, e'.trans (e''.trans e5), ?_, ?_, ?_, ?_, ?_⟩
      · have g6 := g5.chg (p := lf) (o := .lst fv) (o' := .lst (fv ++ [.ref p5])) (M ++ [(la, .lst vs), (lb, .lst (ls.map V.int))]) (c2 := []) (by simp)
        rw [List.append_assoc] at g6
        exact g6
      · rw [List.map_append]
        exact dpAll_snoc (dpAll_ex (e''.trans e5) _ q1) (.tup (st_of h5) (.cons (.int _) (.cons (dp_ex e5 _ db) .nil)))
      · rw [List.map_append, q2, List.take_succ, hli]; rfl
      · intro s hs
        rcases List.mem_append.mp hs with z | z
        · exact q3 s z
        · rw [List.mem_singleton.mp z]; exact okb
      · rw [List.map_append, q4, List.take_succ, hasi, List.map_append]
        show _ ++ [b.kind] = _ ++ [a.kind]
        rw [hk]
    refine u_cut ⟨fun σ'' H'' => ∃ (G'' : Hp) (pb : Addr) (b : PA), σ'' = sg t v hl wide [some (.ref la), o6, o7, some (.ref lb), some (.ref pb), some (.ref lf), some (.int l)] ∧ Ex G' G'' ∧ Gn G'' (M ++ [(la, .lst vs), (lb, .lst (ls.map V.int)), (lf, .lst fv)]) t m H'' ∧ Dp K G'' (.ref pb) b.d ∧ ActOk wide h hs (fun j => j ∈ ls) b ∧ b.kind = a.kind, ?_, fun σ'' H'' ⟨G'', pb, b, z0, z1, z2, z3, z4, z5⟩ => by rw [z0]; exact go H'' G'' pb b z1 z2 z3 z4 z5⟩
    have tp : SqT K (upd H' T (.tup [.int l, .ref pa])) pa (.str a.kind :: xr) := ex_t g3.ex hpa
    refine u_if (u_test ?_)
    refine u_op (pv_op (pv_var (v := .ref pa) rfl) pv_c (pr_ixt tp (atI_zero _ _)) _ ?_)
    refine t_tup (pa_cons pv_c (pa_cons pv_c pa_nil)) (by show 2 ≤ 100000; decide) fun p5 hp5 => .inl ⟨p5, _, rfl, .inr (st_of upd_same), rfl, rfl, ⟨_, rfl, ?_⟩⟩
    have e5 := Ex.new (o := .tup [V.str "if", .str "go"]) hp5
    have g5 := g3.grow e5
    rcases act_split oka with ⟨s, gg, tt, jj, rfl⟩ | ⟨jj, rfl⟩ | ⟨hin, okJ⟩
    · obtain ⟨v1, r1, rfl, y1, dxr⟩ := dpAll_cons dxr
      obtain ⟨v2, r2, rfl, y2, dxr⟩ := dpAll_cons dxr
      obtain ⟨v3, r3, rfl, y3, dxr⟩ := dpAll_cons dxr
      obtain ⟨v4, r4, rfl, y4, dxr⟩ := dpAll_cons dxr
      cases dpAll_nil dxr
      cases dp_int y4
      refine (?_ : if (true = true) then _ else _)
      refine u_true (u_asg ?_)
      refine relabel (init := [.str "if", v1, v2, v3]) (j := jj) (fun _ => pv_var rfl) (fun _ => pv_var rfl) (g5.at (p := lb) (o := .lst (ls.map V.int)) (by simp)) (ex_t e5 tp) (by simp) (by show 4 ≤ 10; decide) hlne fun H6 p6 lab e6 hp6 hlab => ?_
      obtain ⟨g7, e7, h7⟩ := (g5.grow e6).addG (o := .tup ([.str "if", v1, v2, v3] ++ [.int lab])) hp6
      exact ⟨_, p6, .plain (.iff s gg tt lab), rfl, e7, g7, .tup (st_of h7) (.cons (.str _) (.cons (dp_ex e7 _ y1) (.cons (dp_ex e7 _ y2) (.cons (dp_ex e7 _ y3) (.cons (.int _) .nil))))), ⟨oka.1, oka.2.1, oka.2.2.1, hlab⟩, rfl⟩
    · obtain ⟨v4, r4, rfl, y4, dxr⟩ := dpAll_cons dxr
      cases dpAll_nil dxr
      cases dp_int y4
      refine (?_ : if (true = true) then _ else _)
      refine u_true (u_asg ?_)
      refine relabel (init := [.str "go"]) (j := jj) (fun _ => pv_var rfl) (fun _ => pv_var rfl) (g5.at (p := lb) (o := .lst (ls.map V.int)) (by simp)) (ex_t e5 tp) (by simp) (by show 1 ≤ 10; decide) hlne fun H6 p6 lab e6 hp6 hlab => ?_
      obtain ⟨g7, e7, h7⟩ := (g5.grow e6).addG (o := .tup ([.str "go"] ++ [.int lab])) hp6
      exact ⟨_, p6, .plain (.go lab), rfl, e7, g7, .tup (st_of h7) (.cons (.str _) (.cons (.int _) .nil)), hlab, rfl⟩
    · show if inV (.str a.kind) [V.str "if", .str "go"] = true then _ else _
      rw [hin]
      exact u_false (u_next ⟨G', pa, a, rfl, Ex.refl _, g5, dy, okJ _, rfl⟩)
  · obtain ⟨p9, p11, G', fv, st, rfl, e', g', q1, q2, q3, q4⟩ := q
    have e10 : (ls.map V.int).length = ls.length := List.length_map ..
    have q2 : st.map (·.1) = ls := by rw [q2, e10, List.take_length]
    have q4 : st.map (·.2.kind) = as.map (·.kind) := by rw [q4, e10, hll, List.take_length]
    dsimp only
    refine u_ret ?_
    refine pv_var (v := .ref lf) rfl _ ⟨lf, fv, rfl, .inr (.inr ⟨sq_of (g'.at (p := lf) (o := .lst fv) (by simp)), fun p5 ob5 hp5 hob5 => ?_⟩)⟩
    obtain ⟨g5, e5, h5⟩ := g'.addG (o := .frz ob5 (.tup fv)) hp5
    have stl : st.length = as.length := by have := congrArg List.length q2; rw [List.length_map] at this; omega
    refine kk _ _ p5 st (e1.trans (e'.trans e5)) (g5.sub (List.sublist_append_left _ _)) ⟨fv, ⟨ob5, h5, hob5⟩, dpAll_ex e5 _ q1⟩ ⟨fun z => by rw [z] at stl; exact hne (List.eq_nil_of_length_eq_zero stl.symm), by omega, by rw [q2]; exact hup, fun s hs => hlv _ (by rw [← q2]; exact List.mem_map_of_mem (f := (·.1)) hs), fun s hs => by rw [q2]; exact q3 s hs, fun s hs => ?_⟩
    obtain ⟨l, z, hz, hzk⟩ := hlast
    have k1 : (st.map (·.2.kind)).getLast? = some s.2.kind := by rw [List.getLast?_map, hs]; rfl
    rw [q4, hz, List.map_append] at k1
    simp at k1
    rw [← k1]
    exact hzk
theorem s_steps {hl : Addr} {hvs : List V} (g : Gn G M t n H) (hn : n ≤ 400000) (hd : HeadG G v h) (ok : HrOk j h) (hG : HsG K G hl hvs hs) (hw : 1 ≤ wide ∧ wide ≤ 31)
    (kk : ∀ G' H' p st, Ex G G' → Gn G' M t (n + 400) H' → FzD K G' p (st.map stepD) → StepsOk wide h hs st → Q (.ref p) H') : sp__law_steps K w [.ref t, v, .ref hl, .int wide, .int 8] H Q E := by
  refine ⟨rfl, ?_⟩
  unfold t__law_steps
  refine u_seq (a_asgL pa_nil (by decide) fun l0 hl0 => ?_)
  have g0 := g.new (o := .lst []) hl0
  dsimp only [gName]
  refine steps_loop (hs := hs) (r := [none, none, none, none, none, none]) g0 (by omega) hd ok hw fun la as H1 a1 h9 => ?_
  refine u_seq (steps_acts a1 h9 (by omega) hd ok hG hw fun as2 o2 H2 a2 h17 => ?_)
  refine steps_last a2 h17 (by omega) hd ok fun as3 o3 o3' H3 a3 h18 hlast => ?_
  have hne : as3 ≠ [] := by
    obtain ⟨l, z, hz, _⟩ := hlast
    rw [hz]; simp
  refine steps_labels a3 hne h18 (by omega) fun lb ls o4 H4 a4 hll hup hlv => ?_
  exact steps_zip a4 hne h18 hll hup hlv hlast fun G' H' p st e g' dp so => kk G' H' p st e (g'.up (by omega)) dp so
end
end B72


set_option Elab.async false
set_option linter.all false
set_option maxRecDepth 100000
set_option maxHeartbeats 400000
/-! C10: a program drawn; words handed in; the tape. -/
namespace B72
open PySem L2 Evl R72
structure Df where
  h : Hr
  steps : List (Int × PA)
def Df.d (d : Df) : PyData := .tuple [.str d.h.name, .tuple (d.h.params.map .str), .tuple (d.h.fingers.map .str), .tuple (d.h.rows.map .str), .tuple (d.steps.map stepD)]
def progD (W : Int) (ds : List Df) : PyData := .tuple [.int W, .tuple (ds.map Df.d)]
structure ProgOk (W : Int) (ds : List Df) : Prop where
  w : 1 ≤ W ∧ W ≤ 31
  hs : ∃ hs : List Hr, hs ≠ [] ∧ hs.length ≤ 3 ∧ (∀ k h, hs[k]? = some h → HrOk k h) ∧ (ds.map (·.h) = hs ∨ ds.map (·.h) = hs.reverse) ∧ ∀ d ∈ ds, StepsOk W d.h hs d.steps
section
variable {K : PySem.W.Frag} {w : World} {G G' H H' : Hp} {M : List (Addr × HO)} {t : Addr} {n : Nat} {Q : VK} {E : XK} {σ : L2.St} {D : Ends} {h o : Hr} {hs : List Hr} {v u : V} {j jo : Nat} {wide : Int}
theorem paired_get {α β : Type} {R : α → β → Prop} {xs : List α} {ys : List β} (p : Paired R xs ys) : ∀ {i : Nat} {x : α}, xs[i]? = some x → ∃ y, ys[i]? = some y ∧ R x y := by
  induction p with
  | nil => intro i x h; simp at h
  | @cons a b as bs hab _ ih =>
    intro i x h
    cases i with
    | zero =>
      have : a = x := by simpa using h
      subst this
      exact ⟨b, rfl, hab⟩
    | succ i =>
      have h : as[i]? = some x := by simpa using h
      obtain ⟨y, hy, r⟩ := ih h
      exact ⟨y, by simpa using hy, r⟩
theorem dpAll_rev {xs : List V} {ds : List PyData} (a : DpAll K G xs ds) : DpAll K G xs.reverse ds.reverse := by
  induction ds generalizing xs with
  | nil => rw [dpAll_nil a]; exact .nil
  | cons d ds ih =>
    obtain ⟨v, vs, rfl, a1, a2⟩ := dpAll_cons a
    rw [List.reverse_cons, List.reverse_cons]
    exact dpAll_snoc (ih a2) a1
/-- a def as it lies -/
structure DI (K : PySem.W.Frag) (H : Hp) (da a1 a2 a3 a4 : Addr) (sv : List V) (d : Df) : Prop where
  hd : SqT K H da [.str d.h.name, .ref a1, .ref a2, .ref a3, .ref a4]
  h1 : SqT K H a1 (d.h.params.map V.str)
  h2 : SqT K H a2 (d.h.fingers.map V.str)
  h3 : SqT K H a3 (d.h.rows.map V.str)
  h4 : SqT K H a4 sv
  hs : DpAll K H sv (d.steps.map stepD)
theorem DI.ex {da a1 a2 a3 a4 : Addr} {sv : List V} {d : Df} (q : DI K H da a1 a2 a3 a4 sv d) (e : Ex H H') : DI K H' da a1 a2 a3 a4 sv d := ⟨ex_t e q.hd, ex_t e q.h1, ex_t e q.h2, ex_t e q.h3, ex_t e q.h4, dpAll_ex e _ q.hs⟩
theorem di_of {d : Df} (q : Dp K H v d.d) : ∃ da a1 a2 a3 a4 sv, v = .ref da ∧ DI K H da a1 a2 a3 a4 sv d := by
  obtain ⟨row, ys, rfl, h1, h2⟩ := dp_tup q
  obtain ⟨v1, ys, rfl, a1, h2⟩ := dpAll_cons h2
  obtain ⟨v2, ys, rfl, a2, h2⟩ := dpAll_cons h2
  obtain ⟨v3, ys, rfl, a3, h2⟩ := dpAll_cons h2
  obtain ⟨v4, ys, rfl, a4, h2⟩ := dpAll_cons h2
  obtain ⟨v5, ys, rfl, a5, h2⟩ := dpAll_cons h2
  rw [dpAll_nil h2, dp_str a1] at h1
  obtain ⟨p2, x2, rfl, b2, c2⟩ := dp_tup a2
  obtain ⟨p3, x3, rfl, b3, c3⟩ := dp_tup a3
  obtain ⟨p4, x4, rfl, b4, c4⟩ := dp_tup a4
  obtain ⟨p5, x5, rfl, b5, c5⟩ := dp_tup a5
  rw [strs_of c2] at b2
  rw [strs_of c3] at b3
  rw [strs_of c4] at b4
  exact ⟨row, p2, p3, p4, p5, x5, rfl, h1, b2, b3, b4, b5, c5⟩
theorem fz_ex {a : Addr} {xs : List V} (e : Ex H H') (h : Fz H a xs) : Fz H' a xs := by
  obtain ⟨o, h1, h2⟩ := h
  exact ⟨o, e _ _ h1, h2⟩
theorem fz_st {a : Addr} {xs : List V} (h : Fz H a xs) : SqT K H a xs := by
  obtain ⟨o, h1, h2⟩ := h
  exact .inl (.inr ⟨o, h1⟩)
/-- a def, its steps in a tuple without a dict of its own -/
def StF (K : PySem.W.Frag) (H : Hp) (v : V) (d : Df) : Prop := ∃ da a1 a2 a3 a4 sv, v = .ref da ∧ DI K H da a1 a2 a3 a4 sv d ∧ Fz H a4 sv
theorem StF.ex {v : V} {d : Df} (h : StF K H v d) (e : Ex H H') : StF K H' v d := by
  obtain ⟨da, a1, a2, a3, a4, sv, rfl, I, f⟩ := h
  exact ⟨da, a1, a2, a3, a4, sv, rfl, I.ex e, fz_ex e f⟩
theorem StF.dp {v : V} {d : Df} (h : StF K H v d) : Dp K H v d.d := by
  obtain ⟨da, a1, a2, a3, a4, sv, rfl, I, f⟩ := h
  exact .tup I.hd (.cons (.str _) (.cons (.tup I.h1 (dpAll_strs _)) (.cons (.tup I.h2 (dpAll_strs _)) (.cons (.tup I.h3 (dpAll_strs _)) (.cons (.tup I.h4 I.hs) .nil)))))
/-- a program of such defs -/
def PgF (K : PySem.W.Frag) (H : Hp) (v : V) (W : Int) (ds : List Df) : Prop := ∃ pp da dvs, v = .ref pp ∧ SqT K H pp [.int W, .ref da] ∧ SqT K H da dvs ∧ Paired (StF K H) dvs ds
theorem stfs_dp {dvs : List V} {ds : List Df} (p : Paired (StF K H) dvs ds) : DpAll K H dvs (ds.map Df.d) := by
  induction p with
  | nil => exact .nil
  | cons h t ih => exact .cons h.dp ih
theorem PgF.dp {v : V} {W : Int} {ds : List Df} (h : PgF K H v W ds) : Dp K H v (progD W ds) := by
  obtain ⟨pp, da, dvs, rfl, h1, h2, h3⟩ := h
  exact .tup h1 (.cons (.int _) (.cons (.tup h2 (stfs_dp h3)) .nil))
theorem PgF.ex {v : V} {W : Int} {ds : List Df} (h : PgF K H v W ds) (e : Ex H H') : PgF K H' v W ds := by
  obtain ⟨pp, da, dvs, rfl, h1, h2, h3⟩ := h
  exact ⟨pp, da, dvs, rfl, ex_t e h1, ex_t e h2, Paired.imp (fun _ _ z => z.ex e) h3⟩
theorem paired_rev {α β : Type} {R : α → β → Prop} {xs : List α} {ys : List β} (p : Paired R xs ys) : Paired R xs.reverse ys.reverse := by
  induction p with
  | nil => exact .nil
  | cons h t ih => rw [List.reverse_cons, List.reverse_cons]; exact Paired.snoc ih h
theorem s_handed (g : Gn G M t n H) (hn : n ≤ 400000) (kk : ∀ G' H' p (ws : List Int), Ex G G' → Gn G' M t (n + 40) H' → G' p = some (.tup (ws.map V.int)) → (∀ y ∈ ws, -1 ≤ y ∧ y ≤ 1) → ws.length ≤ 6 → Q (.ref p) H') : sp__law_handed K w [.ref t, .int 1, .int 6] H Q E := by
  refine ⟨rfl, ?_⟩
  unfold t__law_handed
  refine u_ret ?_
  refine (?_ : tCons _ tNil _ _ _)
  refine u_cons (u_lc (u_rng1 (u_cons ?_)))
  refine t_call (pa_cons (pv_var rfl) (pa_cons (pv_op (pv_var rfl) pv_c pr_add) pa_nil)) (s_draw g (by omega) (by decide) fun H1 d g1 d0 d7 => ?_)
  have d7 : d < 7 := d7
  refine pa_nil _ ⟨d, rfl, by omega, by omega, fun Dl hD => ?_⟩
  have g2 := g1.new (o := .lst []) hD
  refine lc_range (lo := 0) (n := d.toNat) (fun i H' => ∃ (G' : Hp) (ws : List Int), Ex G G' ∧ Gn G' (M ++ [(Dl, .lst (ws.map V.int))]) t (n + 1 + 3 * i) H' ∧ ws.length = i ∧ ∀ y ∈ ws, -1 ≤ y ∧ y ≤ 1) ⟨G, [], Ex.refl G, g2, rfl, fun y hy => by cases hy⟩ (fun i H' hi q => ?_) fun H' q => ?_
  · obtain ⟨G', ws, e', g', q1, q2⟩ := q
    refine ⟨rfl, u_yes ?_⟩
    refine t_call (pa_cons (pv_var (v := .ref t) rfl) (pa_cons (pv_var (v := .int 1) rfl) pa_nil)) (s_a_word g' (by omega) (by decide) fun G3 H3 y e3 g3 y1 y2 => ?_)
    refine ⟨ws.map V.int, g3.at (p := Dl) (o := .lst (ws.map V.int)) (by simp), by rw [List.length_map]; exact sz_lt (by omega), G3, ws ++ [y], e'.trans e3, ?_, by rw [List.length_append, q1]; rfl, fun z hz => ?_⟩
    · have g4 := g3.chg (p := Dl) (o := .lst (ws.map V.int)) (o' := .lst (ws.map V.int ++ [.int y])) M (c2 := []) rfl
      have ee : ws.map V.int ++ [.int y] = (ws ++ [y]).map V.int := by simp
      rw [ee] at g4 ⊢
      exact g4.up (by omega)
    · rcases List.mem_append.mp hz with r | r
      · exact q2 z r
      · rw [List.mem_singleton.mp r]; exact ⟨y1, y2⟩
  · obtain ⟨G', ws, e', g', q1, q2⟩ := q
    refine pa_nil _ ⟨Dl, _, rfl, .inl ⟨sq_of (g'.at (p := Dl) (o := .lst (ws.map V.int)) (by simp)), fun p hp => ?_⟩⟩
    obtain ⟨g5, e5, h5⟩ := g'.addG (o := .tup (ws.map V.int)) hp
    exact kk _ _ p ws (e'.trans e5) ((g5.sub (List.sublist_append_left _ _)).up (by omega)) h5 q2 (by omega)
theorem s_tape {sc : Addr} {xs : List Int} (hs : SqL K H sc (xs.map V.int)) (hl : xs.length ≤ 1000) (kk : ∀ H' p own mixed, Ex H H' → H p = none → H' p = some (.lst [.int own, .int mixed, .int 0]) → 0 ≤ own → 0 ≤ mixed → Q (.ref p) H') : sp__law_tape K w [.ref sc, .int 0] H Q E := by
  refine ⟨rfl, ?_⟩
  unfold t__law_tape
  refine u_seq (a_asg (pv_op (pv_op pv_c (pv_var rfl) (pr_mul (cmul_of (a := 16) (b := 1) (by decide) (by decide) (by decide)))) pv_c pr_add) ?_)
  have hcell : ∃ cell : Int, (if (decide ((0 : Int) < ((xs.map V.int).length : Int))) = true then (xs[0]?.map V.int).getD .non else V.int (60029 * 0 + 3001)) = .int cell := by
    cases xs with
    | nil => exact ⟨_, rfl⟩
    | cons x r => exact ⟨x, by rw [if_pos (decide_eq_true (by simp only [List.map_cons, List.length_cons]; omega))]; rfl⟩
  obtain ⟨cell, hc⟩ := hcell
  dsimp only [gName]
  refine c_asgif rfl (pt_test (pv_op (pv_var rfl) (pv_lenl (pv_var rfl) hs) pr_lt)) (v1 := (xs[0]?.map V.int).getD .non) (fun hb => ?_) ?_
  · have hb : (0 : Int) < ((xs.map V.int).length : Int) := of_decide_eq_true hb
    cases xs with
    | nil => exact absurd hb (by decide)
    | cons x r => exact pv_op (pv_var rfl) (pv_var rfl) (pr_ixl hs (atI_zero _ _))
  rw [hc]
  refine u_seq (a_asg pv_c ?_)
  dsimp only [gName]
  have pw : ∀ {σ : L2.St} {H : Hp}, Pv (tOp rPowX (tC (.int 10)) (tC (.int 18))) σ H (.int 1000000000000000000) := pv_op pv_c pv_c (fun Q' q => ⟨10, 18, rfl, rfl, ⟨by decide, by decide, by decide⟩, q⟩)
  refine c_asgif rfl (pt_test (pv_op (pv_var rfl) pw pr_ge)) (fun _ => pv_op (pv_var rfl) pw pr_sub) ?_
  have hown : ∃ own : Int, 0 ≤ own ∧ (if decide ((1000000000000000000 : Int) ≤ cell) = true then V.int (cell - 1000000000000000000) else V.int 0) = .int own := by
    by_cases q : (1000000000000000000 : Int) ≤ cell
    · rw [if_pos (decide_eq_true q)]; exact ⟨_, by omega, rfl⟩
    · rw [if_neg (by simpa using q)]; exact ⟨0, by decide, rfl⟩
  obtain ⟨own, h0, ho⟩ := hown
  rw [ho]
  refine u_ret (t_lst (pa_cons (pv_var rfl) (pa_cons (pv_op (pv_op (pv_var rfl) pv_c (pr_mod (by decide))) (pv_op pv_c (pv_var rfl) (pr_mul (cmul_of (a := 16) (b := 1) (by decide) (by decide) (by decide)))) pr_add) (pa_cons pv_c pa_nil))) (by show 3 ≤ 100000; decide) fun p hp => ?_)
  have m1 := Int.fmod_nonneg_of_pos cell (b := 4611686018427387847) (by decide)
  exact kk _ p own _ (Ex.new hp) hp upd_same h0 (by omega)
theorem s_program {wl : Addr} (g : Gn G M t n H) (hn : n ≤ 300000) (hw : G wl = some (.lst [.int 1, .int 2, .int 3, .int 6, .int 31])) (kk : ∀ G' H' p W ds, Ex G G' → Gn G' M t (n + 2000) H' → PgF K G' (.ref p) W ds → ProgOk W ds → Q (.ref p) H') : sp__law_program K w [.ref t, .ref wl, .int 8] H Q E := by
  refine ⟨rfl, ?_⟩
  unfold t__law_program
  refine u_seq (u_asg ?_)
  refine t_call (pa_cons (pv_var rfl) (pa_cons (pv_var rfl) pa_nil)) (s_pick g (by omega) (sq_of hw) (by simp) (by show 5 < 1000000; decide) fun H1 u1 g1 hu1 => ?_)
  obtain ⟨W, rfl, w1, w2⟩ : ∃ i : Int, u1 = .int i ∧ 1 ≤ i ∧ i ≤ 31 := by
    have hu : u1 = .int 1 ∨ u1 = .int 2 ∨ u1 = .int 3 ∨ u1 = .int 6 ∨ u1 = .int 31 := by simpa using hu1
    rcases hu with z | z | z | z | z <;> exact ⟨_, z, by decide, by decide⟩
  dsimp only [gName]
  refine u_seq (u_asg (u_lc (u_rng1 (u_cons (u_op (pv_c _ ?_))))))
  refine u_call (u_cons (pv_var rfl _ (u_cons ?_)))
  refine t_lst (pa_cons pv_c (pa_cons pv_c (pa_cons pv_c (pa_cons pv_c (pa_cons pv_c pa_nil))))) (by show 5 ≤ 100000; decide) fun p2 hp2 => ?_
  obtain ⟨g2, e2, h2⟩ := g1.addG (o := .lst [.int 0, .int 0, .int 1, .int 1, .int 2]) hp2
  refine pa_nil _ (s_pick g2 (by omega) (sq_of h2) (by simp) (by show 5 < 1000000; decide) fun H3 u3 g3 hu3 => ?_)
  obtain ⟨nd, rfl, nd1, nd2⟩ : ∃ i : Int, u3 = .int i ∧ 0 ≤ i ∧ i ≤ 2 := by
    have hu : u3 = .int 0 ∨ u3 = .int 0 ∨ u3 = .int 1 ∨ u3 = .int 1 ∨ u3 = .int 2 := by simpa using hu3
    rcases hu with z | z | z | z | z <;> exact ⟨_, z, by decide, by decide⟩
  refine pr_add _ (pa_nil _ ⟨_, rfl, by omega, by omega, fun hl hhl => ?_⟩)
  have g4 := g3.new (o := .lst []) hhl
  refine lc_range (lo := 0) (n := (1 + nd).toNat) (fun i H' => ∃ (G' : Hp) (hvs : List V) (hs : List Hr), Ex G G' ∧ Gn G' (M ++ [(hl, .lst hvs)]) t (n + 2 + 18 * i) H' ∧ Paired (HeadG G') hvs hs ∧ hs.length = i ∧ ∀ k h, hs[k]? = some h → HrOk k h)
    ⟨_, [], [], e2, g4, .nil, rfl, fun k h z => by simp at z⟩ (fun i H' hi q => ?_) fun H' q => ?_
  · obtain ⟨G', hvs, hs, e', g', q1, q2, q3⟩ := q
    have e0 : (0 : Int) + (i : Int) = (i : Int) := Int.zero_add _
    rw [e0]
    refine ⟨rfl, u_yes ?_⟩
    have hvl := Paired.len q1
    refine t_call (pa_cons (pv_var (v := .ref t) rfl) (pa_cons (pv_var (v := .int (i : Int)) rfl) pa_nil)) (s_head (k := i) g' (by omega) (by omega) fun G5 H5 hv h e5 g5 hG hO => ?_)
    refine ⟨hvs, g5.at (p := hl) (o := .lst hvs) (by simp), sz_lt (by omega), G5, hvs ++ [hv], hs ++ [h], e'.trans e5, ?_, Paired.snoc (Paired.imp (fun _ _ z => z.mono e5) q1) hG, by rw [List.length_append, q2]; rfl, fun k h' hk => ?_⟩
    · exact (g5.chg (p := hl) (o := .lst hvs) (o' := .lst (hvs ++ [hv])) M (c2 := []) rfl).up (by omega)
    · by_cases hkl : k < hs.length
      · rw [List.getElem?_append_left hkl] at hk
        exact q3 k h' hk
      · have hk2 : k = hs.length := by
          have := (List.getElem?_eq_some_iff.mp hk).1
          rw [List.length_append] at this
          simp only [List.length_singleton] at this
          omega
        subst hk2
        rw [List.getElem?_append_right (Nat.le_refl _), Nat.sub_self] at hk
        have : h = h' := by simpa using hk
        subst this
        rw [q2]
        exact hO
  · obtain ⟨G', hvs, hs, e', g', q1, q2, q3⟩ := q
    obtain ⟨g6, e6⟩ := Gn.freeze (M1 := M) (M2 := []) g'
    rw [List.append_nil] at g6
    have h6 : (upd G' hl (.lst hvs)) hl = some (.lst hvs) := upd_same
    have hvl := Paired.len q1
    have hG : HsG K (upd G' hl (.lst hvs)) hl hvs hs := ⟨sq_of h6, Paired.imp (fun _ _ z => z.mono e6) q1, fun o ho => by
      obtain ⟨k, hk⟩ := List.mem_iff_getElem?.mp ho
      exact ⟨k, q3 k o hk⟩, fun z => by rw [z] at q2; simp only [List.length_nil] at q2; omega, by omega⟩
    have eg6 := e'.trans e6
    generalize upd G' hl (.lst hvs) = G6 at g6 h6 hG eg6
    dsimp only [gName]
    refine u_seq (a_asgL pa_nil (by decide) fun ld hld => ?_)
    have g7 := g6.new (o := .lst []) hld
    dsimp only [gName]
    refine u_seq (f_L (a := hl) (xs := hvs) (pv_var rfl) (sq_of (g7.ex _ _ h6)) (fun i σ' H' => ∃ (o6 o7 o8 o9 : Option V) (G' : Hp) (dv : List V) (ds : List Df), σ' = [some (.ref t), some (.ref wl), some (.int 8), some (.int W), some (.ref hl), some (.ref ld), o6, o7, o8, o9, none] ∧ Ex G6 G' ∧ Gn G' (M ++ [(ld, .lst dv)]) t (n + 56 + 400 * i) H' ∧ Paired (StF K G') dv ds ∧ ds.map (·.h) = hs.take i ∧ ∀ d ∈ ds, StepsOk W d.h hs d.steps)
      ⟨_, _, _, _, G6, [], [], rfl, Ex.refl _, g7.up (by omega), .nil, rfl, fun d hd => by cases hd⟩ (fun i σ' H' _ q => ?_) (fun i hv σ' H' hhv q => ?_) fun σ' H' q => ?_)
    · obtain ⟨_, _, _, _, G', dv, ds, _, e, g', _⟩ := q
      exact sq_of (g'.ex _ _ (e _ _ h6))
    · obtain ⟨o6, o7, o8, o9, G', dv, ds, rfl, e, g', r1, r2, r3⟩ := q
      have hi : i < hvs.length := (List.getElem?_eq_some_iff.mp hhv).1
      obtain ⟨h, hh, hgv⟩ := paired_get hG.p hhv
      have hgv := hgv.mono e
      have hok := q3 i h hh
      have hhm : h ∈ hs := List.mem_of_getElem? hh
      have hdl : dv.length = ds.length := Paired.len r1
      have hdl2 : ds.length = i := by
        have := congrArg List.length r2
        rw [List.length_map, List.length_take] at this
        omega
      dsimp only [gName]
      obtain ⟨a', rfl, hk⟩ := hgv.kind g'.ex
      obtain ⟨lf, df, glf⟩ := hk "fingers" h.fingers (by simp)
      refine u_seq (u_par (u_cons ?_))
      refine (?_ : tCons _ tNil _ _ _)
      refine u_cons (pv_get (pv_var (v := .ref a') rfl) pv_c df _ (pa_nil _ ⟨lf, _, rfl, .inl ⟨sq_of (g'.ex _ _ glf), fun p5 hp5 => ?_⟩⟩))
      obtain ⟨g5, e5, h5⟩ := g'.addG (o := .tup (h.fingers.map V.str)) hp5
      obtain ⟨a2, ea2, hk5⟩ := (hgv.mono e5).kind g5.ex
      cases ea2
      obtain ⟨lr, dr, glr⟩ := hk5 "rows" h.rows (by simp)
      refine u_cons ?_
      refine (?_ : tCons _ tNil _ _ _)
      refine u_cons (pv_get (pv_var (v := .ref a') rfl) pv_c dr _ (pa_nil _ ⟨lr, _, rfl, .inl ⟨sq_of (g5.ex _ _ glr), fun p6 hp6 => ?_⟩⟩))
      obtain ⟨g6', e6', h6'⟩ := g5.addG (o := .tup (h.rows.map V.str)) hp6
      refine pa_nil _ ⟨_, _, rfl, ?_⟩
      dsimp only
      refine u_seq (u_asg ?_)
      refine t_call (pa_cons (pv_var rfl) (pa_cons (pv_var rfl) (pa_cons (pv_var rfl) (pa_cons (pv_var rfl) (pa_cons (pv_var rfl) pa_nil))))) (s_steps (hs := hs) g6' (by omega) ((hgv.mono e5).mono e6') hok (((hG.mono e).mono e5).mono e6') ⟨w1, w2⟩ fun G7 H7 p7 st e7 g7 dst sok => ?_)
      dsimp only [gName]
      refine u_drop (u_bm ?_)
      refine pv_var (v := .ref ld) rfl _ ⟨.inl ⟨rfl, _, sq_of (g7.at (p := ld) (o := .lst dv) (by simp))⟩, ?_⟩
      have hgv7 := ((hgv.mono e5).mono e6').mono e7
      obtain ⟨a3, ea3, dn⟩ := hgv7.name g7.ex
      cases ea3
      refine u_cons (u_tup (u_cons (pv_get (pv_var (v := .ref a') rfl) pv_c dn _ (u_cons ?_))))
      obtain ⟨lq, a4, ea4, dq, glq⟩ := hgv7.params g7.ex
      cases ea4
      refine (?_ : tCons _ tNil _ _ _)
      refine u_cons (pv_get (pv_var (v := .ref a') rfl) pv_c dq _ (pa_nil _ ⟨lq, _, rfl, .inl ⟨sq_of (g7.ex _ _ glq), fun p8 hp8 => ?_⟩⟩))
      obtain ⟨g8, e8, h8⟩ := g7.addG (o := .tup (h.params.map V.str)) hp8
      refine u_cons (pv_var (v := .ref p5) rfl _ (u_cons (pv_var (v := .ref p6) rfl _ (u_cons (pv_var (v := .ref p7) rfl _ ?_)))))
      refine pa_nil _ ⟨sz_of (by show 5 ≤ 100000; decide), fun p9 hp9 => ?_⟩
      obtain ⟨g9, e9, h9⟩ := g8.addG (o := .tup [.str h.name, .ref p8, .ref p5, .ref p6, .ref p7]) hp9
      have e69 := (e7.trans e8).trans e9
      refine pa_nil _ ⟨ld, dv, .ref p9, rfl, rfl, g9.at (p := ld) (o := .lst dv) (by simp), sz_lt (by omega), _, _, _, _, _, dv ++ [.ref p9], ds ++ [⟨h, st⟩], rfl, e.trans (e5.trans (e6'.trans e69)), ?_, ?_, ?_, ?_⟩
      · have g10 := (g9.chg (p := ld) (o := .lst dv) (o' := .lst (dv ++ [.ref p9])) M (c2 := []) rfl).up (m := n + 56 + 400 * (i + 1)) (by omega)
        exact g10
      · obtain ⟨sv, fsv, dsv⟩ := dst
        exact Paired.snoc (Paired.imp (fun _ _ z => z.ex (e5.trans (e6'.trans e69))) r1) ⟨p9, p8, p5, p6, p7, sv, rfl, ⟨st_of h9, st_of (e9 _ _ h8), st_of (e69 _ _ (e6' _ _ h5)), st_of (e69 _ _ h6'), fz_st (fz_ex (e8.trans e9) fsv), dpAll_ex (e8.trans e9) _ dsv⟩, fz_ex (e8.trans e9) fsv⟩
      · rw [List.map_append, r2, List.take_succ, hh]; rfl
      · intro d hd
        rcases List.mem_append.mp hd with z | z
        · exact r3 d z
        · rw [List.mem_singleton.mp z]; exact sok
    · obtain ⟨o6, o7, o8, o9, G', dv, ds, rfl, e, g', r1, r2, r3⟩ := q
      have r2 : ds.map (·.h) = hs := by rw [r2, hvl, List.take_length]
      have hdl : dv.length = ds.length := Paired.len r1
      have hdl2 : ds.length = hs.length := by have := congrArg List.length r2; rw [List.length_map] at this; exact this
      have fin : ∀ (H'' : Hp) (m : Nat) (dv' : List V) (ds' : List Df), Gn G' (M ++ [(ld, .lst dv')]) t m H'' → m ≤ n + 2000 → Paired (StF K G') dv' ds' → (ds'.map (·.h) = hs ∨ ds'.map (·.h) = hs.reverse) → (∀ d ∈ ds', StepsOk W d.h hs d.steps) →
          tRet (tTup (tCons (tVar 3) (tCons (tCB (rTupX K) (tCons (tVar 5) tNil)) tNil))) { nx := fun _ H' => Q .non H', rt := Q } [some (.ref t), some (.ref wl), some (.int 8), some (.int W), some (.ref hl), some (.ref ld), o6, o7, o8, o9, none] H'' := by
        intro H'' m dv' ds' g'' hm d1 d2 d3
        refine u_ret (u_tup (u_cons (pv_var rfl _ (u_cons ?_))))
        refine (?_ : tCons _ tNil _ _ _)
        refine u_cons (pv_var (v := .ref ld) rfl _ (pa_nil _ ⟨ld, dv', rfl, .inl ⟨sq_of (g''.at (p := ld) (o := .lst dv') (by simp)), fun p5 hp5 => ?_⟩⟩))
        obtain ⟨g5, e5, h5⟩ := g''.addG (o := .tup dv') hp5
        refine pa_nil _ ⟨sz_of (by show 2 ≤ 100000; decide), fun p6 hp6 => ?_⟩
        obtain ⟨g6', e6', h6'⟩ := g5.addG (o := .tup [.int W, .ref p5]) hp6
        refine kk _ _ p6 W ds' (eg6.trans (e.trans (e5.trans e6'))) ((g6'.sub (List.sublist_append_left _ _)).up hm) ⟨p6, p5, dv', rfl, st_of h6', st_of (e6' _ _ h5), Paired.imp (fun _ _ z => z.ex (e5.trans e6')) d1⟩ ⟨⟨w1, w2⟩, hs, hG.ne, by omega, q3, d2, d3⟩
      dsimp only
      refine u_cut ⟨fun σ'' H'' => σ'' = [some (.ref t), some (.ref wl), some (.int 8), some (.int W), some (.ref hl), some (.ref ld), o6, o7, o8, o9, none] ∧ ∃ (m : Nat) (dv' : List V) (ds' : List Df), Gn G' (M ++ [(ld, .lst dv')]) t m H'' ∧ m ≤ n + 2000 ∧ Paired (StF K G') dv' ds' ∧ (ds'.map (·.h) = hs ∨ ds'.map (·.h) = hs.reverse) ∧ (∀ d ∈ ds', StepsOk W d.h hs d.steps), ?_, fun σ'' H'' ⟨z0, m, dv', ds', z1, z2, z3, z4, z5⟩ => by rw [z0]; exact fin H'' m dv' ds' z1 z2 z3 z4 z5⟩
      refine u_if (u_test (u_op ?_))
      refine t_call (pa_cons (pv_var rfl) (pa_cons pv_c pa_nil)) (s_draw g' (by omega) (by decide) fun H8 d g8 d0 d1 => ?_)
      refine pv_c _ (pr_eq rfl _ ⟨_, rfl, ?_⟩)
      by_cases hz : V.int d = .int 0
      rotate_left
      · rw [decide_eq_false hz]
        exact u_false (u_next ⟨rfl, _, dv, ds, g8, by omega, r1, .inl r2, r3⟩)
      rw [decide_eq_true hz]
      refine u_true (u_drop (u_bm0 ?_))
      refine pv_var (v := .ref ld) rfl _ ⟨.inl ⟨rfl, _, sq_of (g8.at (p := ld) (o := .lst dv) (by simp))⟩, ld, dv, rfl, rfl, g8.at (p := ld) (o := .lst dv) (by simp), ?_⟩
      refine ⟨rfl, _, dv.reverse, ds.reverse, g8.chg (p := ld) (o := .lst dv) (o' := .lst dv.reverse) M (c2 := []) rfl, by omega, ?_, .inr (by rw [List.map_reverse, r2]), fun d hd => r3 d (List.mem_reverse.mp hd)⟩
      exact paired_rev r1
end
end B72


set_option Elab.async false
set_option linter.all false
set_option maxRecDepth 100000
set_option maxHeartbeats 400000
/-! C11: names of acts and defs. -/
namespace B72
open PySem L2 Evl R72 PySem.Spec PyProof.Rows
/-! ### one order of words -/
theorem lt_tr : ∀ a b c : List Nat, ltCps b a = false → ltCps c b = false → ltCps c a = false
  | [], _, [], _, _ => rfl
  | [], _, _ :: _, _, _ => rfl
  | _ :: _, [], _, h, _ => by simp [ltCps] at h
  | _ :: _, _ :: _, [], _, h => by simp [ltCps] at h
  | x :: a, y :: b, z :: c, h1, h2 => by
    simp only [ltCps, Bool.or_eq_false_iff, Bool.and_eq_false_imp, decide_eq_false_iff_not, beq_iff_eq] at h1 h2 ⊢
    refine ⟨by omega, fun e => ?_⟩
    have e1 : y = x := by omega
    have e2 : z = y := by omega
    exact lt_tr a b c (h1.2 e1) (h2.2 e2)
theorem lt_as : ∀ a b : List Nat, ltCps b a = false → ltCps a b = false → a = b
  | [], [], _, _ => rfl
  | [], _ :: _, _, h => by simp [ltCps] at h
  | _ :: _, [], h, _ => by simp [ltCps] at h
  | x :: a, y :: b, h1, h2 => by
    simp only [ltCps, Bool.or_eq_false_iff, Bool.and_eq_false_imp, decide_eq_false_iff_not, beq_iff_eq] at h1 h2
    have e1 : x = y := by omega
    subst e1
    rw [lt_as a b (h1.2 rfl) (h2.2 rfl)]
abbrev leW (a b : Str) : Prop := ltCps b.cps.toList a.cps.toList = false
theorem rising_pair : ∀ (l : List Str) (p : Str), risingS p l = true → (p :: l).Pairwise leW
  | [], p, _ => by simp
  | x :: r, p, h => by
    simp only [risingS, Bool.and_eq_true, Bool.not_eq_true'] at h
    have ih := rising_pair r x h.2
    refine List.pairwise_cons.mpr ⟨fun y hy => ?_, ih⟩
    rcases List.mem_cons.mp hy with z | z
    · rw [z]; exact h.1
    · exact lt_tr _ _ _ h.1 ((List.pairwise_cons.mp ih).1 y z)
theorem sorted_one {xs ys : List Str} (p : xs.Perm ys) (h1 : sortedS xs = true) (h2 : sortedS ys = true) : xs = ys := by
  have a : xs.Pairwise leW := by
    cases xs with
    | nil => exact .nil
    | cons x r => exact rising_pair r x h1
  have b : ys.Pairwise leW := by
    cases ys with
    | nil => exact .nil
    | cons x r => exact rising_pair r x h2
  refine List.Perm.eq_of_pairwise (fun x y _ _ q1 q2 => ?_) a b p
  have := lt_as _ _ q1 q2
  exact Str.ext' (Array.toList_inj.mp this)
open Classical in
/-- the words in their order -/
noncomputable def sortU (ks : List Str) : List Str := if h : ∃ ys : List Str, ys.Perm ks ∧ sortedS ys = true then choose h else ks
theorem sortU_is {ks ys : List Str} (p : ys.Perm ks) (h : sortedS ys = true) : ys = sortU ks := by
  have e : ∃ ys : List Str, ys.Perm ks ∧ sortedS ys = true := ⟨ys, p, h⟩
  unfold sortU
  rw [dif_pos e]
  have q := Classical.choose_spec e
  exact sorted_one (p.trans q.1.symm) h q.2
/-! ### the names in an act -/
def strD : PyData → List Str
  | .str x => [x]
  | _ => []
def strsD : PyData → List Str
  | .tuple ds => ds.flatMap strD
  | _ => []
def nameOf1 (c : Nat) (d : PyData) : List Str := if c = 103 then strsD d else if c = 110 ∨ c = 112 ∨ c = 97 ∨ c = 115 then strD d else []
def specOf (k : Str) : Str := (getA partsT k).getD ""
def actNames (a : PA) : List Str := ((specOf a.kind).cps.toList.zip a.parts).flatMap fun q => nameOf1 q.1 q.2
def PartOk (q : Nat × PyData) : Prop := (q.1 = 103 ∧ ∃ gs : List Str, q.2 = .tuple (gs.map .str)) ∨ (q.1 ≠ 103 ∧ ((∃ x, q.2 = .str x) ∨ ∃ i, q.2 = .int i))
structure SpecOk (a : PA) : Prop where
  h : getA partsT a.kind = some (specOf a.kind)
  len : (specOf a.kind).cps.toList.length = a.parts.length
  ok : ∀ q ∈ (specOf a.kind).cps.toList.zip a.parts, PartOk q
theorem strsD_map (gs : List Str) : strsD (.tuple (gs.map .str)) = gs := by
  unfold strsD
  induction gs with
  | nil => rfl
  | cons g gs ih => simp only [List.map_cons, List.flatMap_cons, strD, ih]; rfl
theorem spec_of {k : Str} {cs : List Nat} {ps : List PyData} (h : getA partsT k = some ⟨cs.toArray⟩) (hl : cs.length = ps.length) (ok : ∀ q ∈ cs.zip ps, PartOk q) {a : PA} (ek : a.kind = k) (ep : a.parts = ps) : SpecOk a ∧ actNames a = (cs.zip ps).flatMap fun q => nameOf1 q.1 q.2 := by
  have e : specOf a.kind = ⟨cs.toArray⟩ := by unfold specOf; rw [ek, h]; rfl
  have e2 : (specOf a.kind).cps.toList = cs := by rw [e]
  exact ⟨⟨by rw [e, ek, h], by rw [e2, ep, hl], by rw [e2, ep]; exact ok⟩, by unfold actNames; rw [e2, ep]⟩
def Side.names : Side → List Str
  | .inl x => [x]
  | .inr _ => []
def PA.names : PA → List Str
  | .plain (.set x _) => [x]
  | .plain (.sum _ x y z) => [x, y] ++ z.names
  | .plain (.over _ x y z) => [x, y, z]
  | .plain (.mid x y z) => [x, y, z]
  | .plain (.row a x) => [a, x]
  | .plain (.get x a p) => [x, a, p]
  | .plain (.put a p x) => [a, p, x]
  | .plain (.len x a) => [x, a]
  | .plain (.ask x _ _) => [x]
  | .plain (.tell x) => [x]
  | .plain (.chk a _ b) => a.names ++ b.names
  | .plain (.iff a _ b _) => a.names ++ b.names
  | .plain (.go _) => []
  | .plain (.call ..) => []
  | .plain (.back x) => [x]
  | .call x _ gs => x :: gs
theorem strD_side (z : Side) : strD z.d = z.names := by cases z <;> rfl
theorem part_side (c : Nat) (hc : c ≠ 103) (z : Side) : PartOk (c, z.d) := by
  refine .inr ⟨hc, ?_⟩
  cases z with
  | inl x => exact .inl ⟨x, rfl⟩
  | inr i => exact .inr ⟨i, rfl⟩
theorem part_s (c : Nat) (hc : c ≠ 103) (x : Str) : PartOk (c, .str x) := .inr ⟨hc, .inl ⟨x, rfl⟩⟩
theorem part_i (c : Nat) (hc : c ≠ 103) (x : Int) : PartOk (c, .int x) := .inr ⟨hc, .inr ⟨x, rfl⟩⟩
theorem all1 {P : Nat × PyData → Prop} {a : Nat × PyData} (ha : P a) : ∀ q ∈ [a], P q := fun q hq => by rw [List.mem_singleton.mp hq]; exact ha
theorem all2 {P : Nat × PyData → Prop} {a : Nat × PyData} {l : List (Nat × PyData)} (ha : P a) (hl : ∀ q ∈ l, P q) : ∀ q ∈ a :: l, P q := fun q hq => (List.mem_cons.mp hq).elim (fun z => by rw [z]; exact ha) (hl q)
theorem act_spec {wide : Int} {h : Hr} {hs : List Hr} {J : Int → Prop} {a : PA} (ok : ActOk wide h hs J a) : SpecOk a ∧ actNames a = a.names := by
  have nn : ∀ (c : Nat) (d : PyData), (c = 110 ∨ c = 112 ∨ c = 97 ∨ c = 115) → nameOf1 c d = strD d := fun c d hc => by unfold nameOf1; rw [if_neg (by omega), if_pos hc]
  have no : ∀ (c : Nat) (d : PyData), c ≠ 103 → ¬ (c = 110 ∨ c = 112 ∨ c = 97 ∨ c = 115) → nameOf1 c d = [] := fun c d h1 h2 => by unfold nameOf1; rw [if_neg h1, if_neg h2]
  cases a with
  | call x f gs =>
    obtain ⟨s, e⟩ := spec_of (k := "call") (cs := [112, 102, 103]) (ps := [.str x, .str f, .tuple (gs.map .str)]) rfl rfl (all2 (part_s _ (by decide) _) (all2 (part_s _ (by decide) _) (all1 (.inl ⟨rfl, gs, rfl⟩)))) (a := .call x f gs) rfl rfl
    refine ⟨s, e.trans ?_⟩
    show nameOf1 112 _ ++ (nameOf1 102 _ ++ (nameOf1 103 _ ++ [])) = _
    rw [nn 112 _ (by decide), no 102 _ (by decide) (by decide)]
    show [x] ++ ([] ++ ((if (103 : Nat) = 103 then strsD (.tuple (gs.map .str)) else _) ++ [])) = x :: gs
    rw [if_pos rfl, strsD_map]; simp
  | plain a =>
    cases a with
    | set x n =>
      obtain ⟨s, e⟩ := spec_of (k := "set") (cs := [110, 107]) (ps := [.str x, .int n]) rfl rfl (all2 (part_s _ (by decide) _) (all1 (part_i _ (by decide) _))) (a := .plain (.set x n)) rfl rfl
      refine ⟨s, e.trans ?_⟩
      show nameOf1 110 _ ++ (nameOf1 107 _ ++ []) = _
      rw [nn 110 _ (by decide), no 107 _ (by decide) (by decide)]; rfl
    | sum k x y z =>
      have hk : k = "add" ∨ k = "plus" ∨ k = "minus" ∨ k = "times" := by simpa [sumKs] using ok.1
      rcases hk with q | q | q | q
      · obtain ⟨i, rfl⟩ := ok.2.2.2.2 q
        subst q
        obtain ⟨s, e⟩ := spec_of (k := "add") (cs := [110, 110, 107]) (ps := [.str x, .str y, .int i]) rfl rfl (all2 (part_s _ (by decide) _) (all2 (part_s _ (by decide) _) (all1 (part_i _ (by decide) _)))) (a := .plain (.sum "add" x y (.inr i))) rfl rfl
        refine ⟨s, e.trans ?_⟩
        show nameOf1 110 _ ++ (nameOf1 110 _ ++ (nameOf1 107 _ ++ [])) = _
        rw [nn 110 _ (by decide), nn 110 _ (by decide), no 107 _ (by decide) (by decide)]; rfl
      all_goals
        have h3 : getA partsT k = some ⟨[112, 112, 112].toArray⟩ := by rw [q]; rfl
        obtain ⟨s, e⟩ := spec_of (k := k) (cs := [112, 112, 112]) (ps := [.str x, .str y, z.d]) h3 rfl (all2 (part_s _ (by decide) _) (all2 (part_s _ (by decide) _) (all1 (part_side _ (by decide) _)))) (a := .plain (.sum k x y z)) rfl rfl
        refine ⟨s, e.trans ?_⟩
        show nameOf1 112 _ ++ (nameOf1 112 _ ++ (nameOf1 112 _ ++ [])) = _
        rw [nn 112 _ (by decide), nn 112 _ (by decide), nn 112 _ (by decide), strD_side]
        show [x] ++ ([y] ++ (z.names ++ [])) = [x, y] ++ z.names
        simp
    | over k x y z =>
      rcases ok.1 with q | q
      all_goals
        have h3 : getA partsT k = some ⟨[112, 112, 112].toArray⟩ := by rw [q]; rfl
        obtain ⟨s, e⟩ := spec_of (k := k) (cs := [112, 112, 112]) (ps := [.str x, .str y, .str z]) h3 rfl (all2 (part_s _ (by decide) _) (all2 (part_s _ (by decide) _) (all1 (part_s _ (by decide) _)))) (a := .plain (.over k x y z)) rfl rfl
        refine ⟨s, e.trans ?_⟩
        show nameOf1 112 _ ++ (nameOf1 112 _ ++ (nameOf1 112 _ ++ [])) = _
        rw [nn 112 _ (by decide), nn 112 _ (by decide), nn 112 _ (by decide)]; rfl
    | mid x y z =>
      obtain ⟨s, e⟩ := spec_of (k := "mid") (cs := [110, 110, 110]) (ps := [.str x, .str y, .str z]) rfl rfl (all2 (part_s _ (by decide) _) (all2 (part_s _ (by decide) _) (all1 (part_s _ (by decide) _)))) (a := .plain (.mid x y z)) rfl rfl
      refine ⟨s, e.trans ?_⟩
      show nameOf1 110 _ ++ (nameOf1 110 _ ++ (nameOf1 110 _ ++ [])) = _
      rw [nn 110 _ (by decide), nn 110 _ (by decide), nn 110 _ (by decide)]; rfl
    | row a x =>
      obtain ⟨s, e⟩ := spec_of (k := "row") (cs := [97, 110]) (ps := [.str a, .str x]) rfl rfl (all2 (part_s _ (by decide) _) (all1 (part_s _ (by decide) _))) (a := .plain (.row a x)) rfl rfl
      refine ⟨s, e.trans ?_⟩
      show nameOf1 97 _ ++ (nameOf1 110 _ ++ []) = _
      rw [nn 97 _ (by decide), nn 110 _ (by decide)]; rfl
    | get x a p =>
      obtain ⟨s, e⟩ := spec_of (k := "get") (cs := [112, 97, 110]) (ps := [.str x, .str a, .str p]) rfl rfl (all2 (part_s _ (by decide) _) (all2 (part_s _ (by decide) _) (all1 (part_s _ (by decide) _)))) (a := .plain (.get x a p)) rfl rfl
      refine ⟨s, e.trans ?_⟩
      show nameOf1 112 _ ++ (nameOf1 97 _ ++ (nameOf1 110 _ ++ [])) = _
      rw [nn 112 _ (by decide), nn 97 _ (by decide), nn 110 _ (by decide)]; rfl
    | put a p x =>
      obtain ⟨s, e⟩ := spec_of (k := "put") (cs := [97, 110, 110]) (ps := [.str a, .str p, .str x]) rfl rfl (all2 (part_s _ (by decide) _) (all2 (part_s _ (by decide) _) (all1 (part_s _ (by decide) _)))) (a := .plain (.put a p x)) rfl rfl
      refine ⟨s, e.trans ?_⟩
      show nameOf1 97 _ ++ (nameOf1 110 _ ++ (nameOf1 110 _ ++ [])) = _
      rw [nn 97 _ (by decide), nn 110 _ (by decide), nn 110 _ (by decide)]; rfl
    | len x a =>
      obtain ⟨s, e⟩ := spec_of (k := "length") (cs := [110, 97]) (ps := [.str x, .str a]) rfl rfl (all2 (part_s _ (by decide) _) (all1 (part_s _ (by decide) _))) (a := .plain (.len x a)) rfl rfl
      refine ⟨s, e.trans ?_⟩
      show nameOf1 110 _ ++ (nameOf1 97 _ ++ []) = _
      rw [nn 97 _ (by decide), nn 110 _ (by decide)]; rfl
    | ask x l g =>
      obtain ⟨s, e⟩ := spec_of (k := "ask") (cs := [112, 107, 107]) (ps := [.str x, .int l, .int g]) rfl rfl (all2 (part_s _ (by decide) _) (all2 (part_i _ (by decide) _) (all1 (part_i _ (by decide) _)))) (a := .plain (.ask x l g)) rfl rfl
      refine ⟨s, e.trans ?_⟩
      show nameOf1 112 _ ++ (nameOf1 107 _ ++ (nameOf1 107 _ ++ [])) = _
      rw [nn 112 _ (by decide), no 107 _ (by decide) (by decide), no 107 _ (by decide) (by decide)]; rfl
    | tell x =>
      obtain ⟨s, e⟩ := spec_of (k := "tell") (cs := [110]) (ps := [.str x]) rfl rfl (all1 (part_s _ (by decide) _)) (a := .plain (.tell x)) rfl rfl
      refine ⟨s, e.trans ?_⟩
      show nameOf1 110 _ ++ [] = _
      rw [nn 110 _ (by decide)]; rfl
    | back x =>
      obtain ⟨s, e⟩ := spec_of (k := "back") (cs := [110]) (ps := [.str x]) rfl rfl (all1 (part_s _ (by decide) _)) (a := .plain (.back x)) rfl rfl
      refine ⟨s, e.trans ?_⟩
      show nameOf1 110 _ ++ [] = _
      rw [nn 110 _ (by decide)]; rfl
    | go j =>
      obtain ⟨s, e⟩ := spec_of (k := "go") (cs := [108]) (ps := [.int j]) rfl rfl (all1 (part_i _ (by decide) _)) (a := .plain (.go j)) rfl rfl
      refine ⟨s, e.trans ?_⟩
      show nameOf1 108 _ ++ [] = _
      rw [no 108 _ (by decide) (by decide)]; rfl
    | call => exact ok.elim
    | chk a g b =>
      obtain ⟨s, e⟩ := spec_of (k := "check") (cs := [115, 111, 115]) (ps := [a.d, .str g, b.d]) rfl rfl (all2 (part_side _ (by decide) _) (all2 (part_s _ (by decide) _) (all1 (part_side _ (by decide) _)))) (a := .plain (.chk a g b)) rfl rfl
      refine ⟨s, e.trans ?_⟩
      show nameOf1 115 _ ++ (nameOf1 111 _ ++ (nameOf1 115 _ ++ [])) = _
      rw [nn 115 _ (by decide), nn 115 _ (by decide), no 111 _ (by decide) (by decide), strD_side, strD_side]
      show a.names ++ ([] ++ (b.names ++ [])) = a.names ++ b.names
      simp
    | iff a g b j =>
      obtain ⟨s, e⟩ := spec_of (k := "if") (cs := [115, 111, 115, 108]) (ps := [a.d, .str g, b.d, .int j]) rfl rfl (all2 (part_side _ (by decide) _) (all2 (part_s _ (by decide) _) (all2 (part_side _ (by decide) _) (all1 (part_i _ (by decide) _))))) (a := .plain (.iff a g b j)) rfl rfl
      refine ⟨s, e.trans ?_⟩
      show nameOf1 115 _ ++ (nameOf1 111 _ ++ (nameOf1 115 _ ++ (nameOf1 108 _ ++ []))) = _
      rw [nn 115 _ (by decide), nn 115 _ (by decide), no 111 _ (by decide) (by decide), no 108 _ (by decide) (by decide), strD_side, strD_side]
      show a.names ++ ([] ++ (b.names ++ ([] ++ []))) = a.names ++ b.names
      simp
end B72


set_option Elab.async false
set_option linter.all false
set_option maxRecDepth 100000
set_option maxHeartbeats 400000
/-! C12: act_names, names_of, numbers_of. -/
namespace B72
open PySem L2 Evl R72
section
variable {K : PySem.W.Frag} {w : World} {G G' H H' : Hp} {Q : VK} {E : XK} {σ : L2.St} {D : Ends} {v u : V} {wide : Int} {h : Hr} {hs : List Hr} {J : Int → Prop}
theorem st_chg {f a : Addr} {zs ys xs : List V} (hf : H f = some (.lst zs)) (hs : SqT K H a xs) : SqT K (upd H f (.lst ys)) a xs := by
  rcases hs with hs | hs
  · left
    rcases hs with hs | ⟨o, hs⟩
    · left; rw [upd_ne (fun q => by rw [q, hf] at hs; cases hs)]; exact hs
    · right; exact ⟨o, by rw [upd_ne (fun q => by rw [q, hf] at hs; cases hs)]; exact hs⟩
  · right; exact hs
theorem for_zipS {g : TG} {tb : TS} {z : Str} {b : Addr} {ys : List V} (Pv : Nat → L2.St → Hp → Prop) (hz : z.cps.size = ys.length) (hq : ∀ i σ H, Pv i σ H → SqT K H b ys) (h0 : Pv 0 σ H)
    (hs : ∀ (i : Nat) (c : Nat) (y : V) (T : Addr) (σ : L2.St) (H : Hp), z.cps[i]? = some c → ys[i]? = some y → Pv i σ H → H T = none → g (.ref T) σ (upd H T (.tup [.str ⟨#[c]⟩, y])) fun σ2 H2 => tb { D with nx := Pv (i + 1), ct := Pv (i + 1), bk := D.nx } σ2 H2) (hd : ∀ σ H, Pv ys.length σ H → D.nx σ H) :
    ∃ W : Nat → Nat → L2.St → Hp → Prop, (∃ m, W 0 m σ H) ∧ ∀ i m σ H, W i m σ H →
      ((Izs K z b).stop i H ∧ D.nx σ H) ∨ ((Izs K z b).go i H ∧ ∃ N : L2.St → Hp → Prop, (∀ σ' H', N σ' H' → ∃ m', m' < m ∧ W (i + 1) m' σ' H') ∧ ∀ v H', (Izs K z b).yld i H v H' → g v σ H' fun σ2 H2 => tb { D with nx := N, ct := N, bk := D.nx } σ2 H2) := by
  refine ⟨fun i m σ H => m = ys.length - i ∧ i ≤ ys.length ∧ Pv i σ H, ⟨ys.length, rfl, Nat.zero_le _, h0⟩, ?_⟩
  rintro i m σ H ⟨rfl, hi, p⟩
  have hx := hq i σ H p
  by_cases hlt : i < ys.length
  · refine .inr ⟨⟨ys, hx, hz, hlt⟩, Pv (i + 1), fun σ' H' q => ⟨ys.length - (i + 1), by omega, rfl, hlt, q⟩, ?_⟩
    rintro v H' ⟨T, x, c, y, rfl, hT, rfl, rfl, hc, hy⟩
    exact hs i c y T σ H hc (hy ys hx) p hT
  · have : i = ys.length := by omega
    subst this
    exact .inl ⟨⟨ys, hx, hz, rfl⟩, hd σ H p⟩
theorem u_zip {ta : TA} {R : It → Hp → Prop} (k : ta σ H fun vs H1 => (∃ a b xs ys, vs = [.ref a, .ref b] ∧ ((SqL K H1 a xs ∧ SqL K H1 b ys ∧ R (Itz K a b) H1) ∨ (SqT K H1 a xs ∧ SqT K H1 b ys ∧ R (RZ.ItzT K a b) H1))) ∨
  ∃ z b ys, vs = [.str z, .ref b] ∧ SqT K H1 b ys ∧ R (Izs K z b) H1) : iZipX K ta σ H R := k
theorem one_eq (c : Nat) : ((⟨#[c]⟩ : Str) = "g") ↔ c = 103 := by
  constructor
  · intro e
    have := congrArg (fun s : Str => s.cps.toList) e
    have : [c] = [103] := this
    simpa using this
  · rintro rfl; rfl
theorem in_napS (c : Nat) : inV (.str ⟨#[c]⟩) [V.str "n", .str "p", .str "a", .str "s"] = decide (c = 110 ∨ c = 112 ∨ c = 97 ∨ c = 115) := by
  have e : ∀ d : Nat, ((⟨#[d]⟩ : Str) == ⟨#[c]⟩) = decide (c = d) := by
    intro d
    by_cases q : c = d
    · subst q; simp
    · rw [decide_eq_false q]
      rw [beq_eq_false_iff_ne]
      intro z
      have := congrArg (fun s : Str => s.cps.toList) z
      have : [d] = [c] := this
      simp at this
      exact q this.symm
  show (((⟨#[110]⟩ : Str) == ⟨#[c]⟩) || (((⟨#[112]⟩ : Str) == ⟨#[c]⟩) || (((⟨#[97]⟩ : Str) == ⟨#[c]⟩) || (((⟨#[115]⟩ : Str) == ⟨#[c]⟩) || false)))) = _
  rw [e, e, e, e]
  by_cases h1 : c = 110 <;> by_cases h2 : c = 112 <;> by_cases h3 : c = 97 <;> by_cases h4 : c = 115 <;> simp [h1, h2, h3, h4]
def namesTo (a : PA) (i : Nat) : List Str := (((specOf a.kind).cps.toList.zip a.parts).take i).flatMap fun q => nameOf1 q.1 q.2
theorem s_act_names (P : PF K w) {a : PA} (hd : Dp K H v a.d) (ok : SpecOk a) (hlen : (actNames a).length ≤ 50) (hp : a.parts.length ≤ 10) (k : ∀ p H', H p = none → Ex H H' → H' p = some (.lst ((actNames a).map V.str)) → Q (.ref p) H') : sp_act_names K w [v] H Q E := by
  refine ⟨rfl, ?_⟩
  unfold t_act_names
  obtain ⟨pa, xs, rfl, hpa, dxs⟩ := dp_tup hd
  obtain ⟨k0, ps, rfl, dk, dps⟩ := dpAll_cons dxs
  cases dp_str dk
  have hpl : ps.length = a.parts.length := dpAll_len dps
  refine u_seq (a_asgL pa_nil (by decide) fun l hl => ?_)
  have e1 := Ex.new (o := HO.lst []) hl
  dsimp only [gName]
  refine u_seq (u_for (u_zip (u_cons ?_)))
  refine pv_ixd pv_c (pv_op (pv_var (v := .ref pa) rfl) pv_c (pr_ixt (ex_t e1 hpa) (atI_zero _ _))) (P.parts _ _ ok.h) _ (u_cons (u_slL (pv_var (v := .ref pa) rfl _ (u_part (pv_c _ ⟨1, rfl, u_np ?_⟩)))))
  refine .inr ⟨pa, _, rfl, ex_t e1 hpa, fun z => ?_, fun _ p2 hp2 => ?_⟩
  · have z1 := z.1
    have e : HT.sIx (V.str a.kind :: ps).length 0 (some 1) = min 1 (V.str a.kind :: ps).length := HT.sIx_nat _ 0 1
    rw [e] at z1
    simp only [List.length_cons] at z1
    omega
  rw [cut1]
  show tNil _ _ _
  have e2 := e1.trans (Ex.new (o := HO.tup ps) hp2)
  have hl2 : (upd (upd H l (.lst [])) p2 (.tup ps)) l = some (.lst []) := Ex.new hp2 _ _ upd_same
  refine pa_nil _ (.inr ⟨specOf a.kind, p2, ps, rfl, st_of upd_same, ?_⟩)
  refine for_zipS (b := p2) (ys := ps) (fun i σ' H' => (∃ o2 o3, σ' = [some (.ref pa), some (.ref l), o2, o3]) ∧ Ex H H' ∧ H' l = some (.lst ((namesTo a i).map V.str)) ∧ SqT K H' p2 ps) (by rw [hpl, ← ok.len]; rfl) (fun i σ' H' q => q.2.2.2) ⟨⟨_, _, rfl⟩, e2, hl2, st_of upd_same⟩ (fun i c y T σ' H' hc hy q hT => ?_) fun σ' H' q => ?_
  · obtain ⟨⟨o2, o3, rfl⟩, e', hl', ht'⟩ := q
    have hi : i < ps.length := (List.getElem?_eq_some_iff.mp hy).1
    have hdi : a.parts[i]? = some a.parts[i] := List.getElem?_eq_getElem (by omega)
    obtain ⟨y', hy', dy⟩ := dpAll_get dps hdi
    rw [hy] at hy'
    cases hy'
    generalize a.parts[i] = d at hdi dy
    have hz : ((specOf a.kind).cps.toList.zip a.parts)[i]? = some (c, d) := by
      rw [List.getElem?_zip_eq_some]
      exact ⟨by simpa using hc, hdi⟩
    have po := ok.ok _ (List.mem_of_getElem? hz)
    have en : namesTo a (i + 1) = namesTo a i ++ nameOf1 c d := by
      unfold namesTo
      rw [List.take_succ, hz, List.flatMap_append]; simp
    have hln : (namesTo a i).length + (nameOf1 c d).length ≤ 50 := by
      have e9 : actNames a = namesTo a (i + 1) ++ (((specOf a.kind).cps.toList.zip a.parts).drop (i + 1)).flatMap fun q => nameOf1 q.1 q.2 := by
        unfold namesTo actNames
        rw [← List.flatMap_append, List.take_append_drop]
      have := congrArg List.length e9
      rw [en, List.length_append, List.length_append] at this
      omega
    have eT := Ex.new (o := HO.tup [.str ⟨#[c]⟩, y]) hT
    refine g_n2 (st_of upd_same) ?_
    have e3 := e'.trans eT
    have hl3 := eT _ _ hl'
    have ht3 := ex_t eT ht'
    generalize upd H' T (.tup [.str ⟨#[c]⟩, y]) = H3 at e3 hl3 ht3
    have fin : ∀ (H4 : Hp) (zs : List Str), Ex H H4 → H4 l = some (.lst ((namesTo a i).map V.str)) → SqT K H4 p2 ps → nameOf1 c d = zs → (∃ p2 p3, [some (V.ref pa), some (.ref l), some (.str ⟨#[c]⟩), some y] = [some (.ref pa), some (.ref l), p2, p3]) ∧ Ex H (upd H4 l (.lst ((namesTo a i).map V.str ++ zs.map V.str))) ∧ (upd H4 l (.lst ((namesTo a i).map V.str ++ zs.map V.str))) l = some (.lst ((namesTo a (i + 1)).map V.str)) ∧ SqT K (upd H4 l (.lst ((namesTo a i).map V.str ++ zs.map V.str))) p2 ps := by
      intro H4 zs e4 h4 ht4 ez
      exact ⟨⟨_, _, rfl⟩, e4.mut hl, by rw [upd_same, en, ez, List.map_append], st_chg h4 ht4⟩
    refine a_if (pt_test (pv_eqS (pv_var rfl) pv_c)) (fun hb => ?_) fun hb => ?_
    · have hc3 : c = 103 := (one_eq c).mp (of_decide_eq_true hb)
      rcases po with ⟨_, gs, rfl⟩ | ⟨hne, _⟩
      · obtain ⟨tp, tvs, rfl, ht, dt⟩ := dp_tup dy
        rw [strs_of dt] at ht
        have ez : nameOf1 c (.tuple (gs.map .str)) = gs := by unfold nameOf1; rw [if_pos hc3, strsD_map]
        rw [ez] at hln
        refine u_drop (u_bm (pv_var (v := .ref l) rfl _ ⟨.inl ⟨rfl, _, sq_of hl3⟩, u_cons (pv_var (v := .ref tp) rfl _ (pa_nil _ ⟨l, tp, (namesTo a i).map V.str, gs.map V.str, rfl, rfl, hl3, .inr (ex_t e3 ht), by rw [List.length_map, List.length_map]; exact sz_of (by omega), ?_⟩))⟩))
        exact fin H3 gs e3 hl3 ht3 ez
      · exact absurd hc3 hne
    · have hc3 : c ≠ 103 := fun q => of_decide_eq_false hb ((one_eq c).mpr q)
      rcases po with ⟨q, _⟩ | ⟨_, po⟩
      · exact absurd q hc3
      refine u_if (u_and (u_test (u_op (pv_var (v := .str ⟨#[c]⟩) rfl _ (t_tup (pa_cons pv_c (pa_cons pv_c (pa_cons pv_c (pa_cons pv_c pa_nil)))) (by show 4 ≤ 100000; decide) fun p5 hp5 => .inl ⟨p5, _, rfl, .inr (st_of upd_same), rfl, rfl, ⟨_, rfl, ?_⟩⟩)))))
      have e5 := Ex.new (o := HO.tup [.str "n", .str "p", .str "a", .str "s"]) hp5
      have e35 := e3.trans e5
      have hl5 := e5 _ _ hl3
      have ht5 := ex_t e5 ht3
      generalize upd H3 p5 (HO.tup [.str "n", .str "p", .str "a", .str "s"]) = H5 at e35 hl5 ht5
      show if inV (.str ⟨#[c]⟩) [V.str "n", .str "p", .str "a", .str "s"] = true then _ else _
      rw [in_napS]
      have stay : nameOf1 c d = [] → (∃ p2 p3, [some (V.ref pa), some (.ref l), some (.str ⟨#[c]⟩), some y] = [some (.ref pa), some (.ref l), p2, p3]) ∧ Ex H H5 ∧ H5 l = some (.lst ((namesTo a (i + 1)).map V.str)) ∧ SqT K H5 p2 ps := fun ez => ⟨⟨_, _, rfl⟩, e35, by rw [en, ez, List.append_nil]; exact hl5, ht5⟩
      by_cases hn : c = 110 ∨ c = 112 ∨ c = 97 ∨ c = 115
      · rw [decide_eq_true hn]
        refine u_true ?_
        rcases po with ⟨x, rfl⟩ | ⟨x, rfl⟩
        · cases dp_str dy
          have ez : nameOf1 c (.str x) = [x] := by unfold nameOf1; rw [if_neg hc3, if_pos hn]; rfl
          rw [ez] at hln
          refine u_tB (pv_isi_s (pv_var (v := .str x) rfl) _ ⟨_, rfl, u_true ?_⟩)
          refine u_drop (u_bm (pv_var (v := .ref l) rfl _ ⟨.inl ⟨rfl, _, sq_of hl5⟩, u_cons (pv_var (v := .str x) rfl _ (pa_nil _ ⟨l, (namesTo a i).map V.str, .str x, rfl, rfl, hl5, by rw [List.length_map]; exact sz_lt (by omega), ?_⟩))⟩))
          exact fin H5 [x] e35 hl5 ht5 ez
        · cases dp_int dy
          have ez : nameOf1 c (.int x) = [] := by unfold nameOf1; rw [if_neg hc3, if_pos hn]; rfl
          exact u_tB (pv_isi_i (pv_var (v := .int x) rfl) _ ⟨_, rfl, u_false (u_next (stay ez))⟩)
      · rw [decide_eq_false hn]
        exact u_false (u_false (u_next (stay (by unfold nameOf1; rw [if_neg hc3, if_neg hn]))))
  · obtain ⟨⟨o2, o3, rfl⟩, e', hl', _⟩ := q
    have et : namesTo a ps.length = actNames a := by
      unfold namesTo actNames
      rw [List.take_of_length_le (by rw [List.length_zip, hpl]; omega)]
    rw [et] at hl'
    exact u_ret (pv_var (v := .ref l) rfl _ (k l H' hl e' hl'))
end
end B72


set_option Elab.async false
set_option linter.all false
set_option maxRecDepth 100000
set_option maxHeartbeats 400000
/-! C13: names_of, numbers_of. -/
namespace B72
open PySem L2 Evl R72 PyProof.Rows
def dictOf (ns : List Str) : List (Str × Bool) := ns.foldl (fun acc x => putA acc x true) []
def kvT (e : Str × Bool) : Key × V := (.inr e.1, .bl e.2)
section
variable {K : PySem.W.Frag} {w : World} {G G' H H' : Hp} {Q : VK} {E : XK} {σ : L2.St} {D : Ends} {v u : V} {wide : Int} {h : Hr} {hs : List Hr} {J : Int → Prop}
def DcBody (J : It) (σ : L2.St) (j : Nat) (Q : VK) (H1 : Hp) : Prop := ∀ D, H1 D = none → ∃ W : Nat → Nat → Hp → Prop, (∃ m, W 0 m (upd H1 D (.dK []))) ∧ ∀ i m H, W i m H →
  (J.stop i H ∧ Q (.ref D) H) ∨ (J.go i H ∧ ∃ Nx : Hp → Prop, (∀ H', Nx H' → ∃ m', m' < m ∧ W (i + 1) m' H') ∧ ∀ x H', J.yld i H x H' → gName j x (wipe σ [j]) H' fun σ2 H2 => wipe σ2 [j] = wipe σ [j] ∧ tYes σ2 H2 fun b H3 =>
    if b = true then tVar j σ2 H3 fun y H4 => tC (.bl true) σ2 H4 fun z H5 => ∃ kvs k, y = kV k ∧ H5 D = some (.dK kvs) ∧ kvs.length < sizeLine ∧ Nx (upd H5 D (.dK (putK kvs k z))) else Nx H3)
theorem u_dcT {tl : TE} {j : Nat} (k : tl σ H fun x H1 => ∃ a, x = .ref a ∧ ((∃ xs, SqL K H1 a xs ∧ DcBody (Itl K a) σ j Q H1) ∨ (∃ xs, SqT K H1 a xs ∧ DcBody (Itt K a) σ j Q H1))) : tDc (iSeqX K tl) (gName j) tYes (tVar j) (tC (.bl true)) [j] σ H Q := k
theorem dictOf_len (ns : List Str) : (dictOf ns).length ≤ ns.length := by
  have := foldl_len true ns []
  have c0 : ([] : List (Str × Bool)).length = 0 := rfl
  unfold dictOf
  omega
theorem dcb {It : It} {j : Nat} {ns : List Str} (hl : ns.length < 100000) (hj : ∀ x, (((wipe σ [j]).set j (some x))[j]?) = some (some x)) (hw : ∀ x, wipe ((wipe σ [j]).set j (some x)) [j] = wipe σ [j])
    (hgo : ∀ i H', Ex H H' → i < ns.length → It.go i H') (hy : ∀ i H' x H'', Ex H H' → It.yld i H' x H'' → H'' = H' ∧ (ns.map V.str)[i]? = some x) (hst : ∀ H', Ex H H' → It.stop ns.length H')
    (k : ∀ Dl H', H Dl = none → Ex H H' → H' Dl = some (.dK ((dictOf ns).map kvT)) → Q (.ref Dl) H') : DcBody It σ j Q H := by
  intro Dl hD
  refine ⟨fun i m H' => m = ns.length - i ∧ i ≤ ns.length ∧ Ex H H' ∧ H' Dl = some (.dK ((dictOf (ns.take i)).map kvT)), ⟨ns.length, rfl, Nat.zero_le _, Ex.new hD, upd_same⟩, ?_⟩
  rintro i m H' ⟨rfl, hi, e, hd⟩
  by_cases hlt : i < ns.length
  · refine .inr ⟨hgo i H' e hlt, fun H'' => Ex H H'' ∧ H'' Dl = some (.dK ((dictOf (ns.take (i + 1))).map kvT)), fun H'' q => ⟨ns.length - (i + 1), by omega, rfl, hlt, q⟩, fun x H'' hyy => ?_⟩
    obtain ⟨rfl, hx⟩ := hy i H' x H'' e hyy
    rw [List.getElem?_map] at hx
    obtain ⟨n, hn, rfl⟩ := Option.map_eq_some_iff.mp hx
    refine ⟨hw _, u_yes ⟨.str n, hj _, _, Sum.inr n, rfl, hd, ?_, e.mut hD, ?_⟩⟩
    · have a := dictOf_len (ns.take i)
      have b : (ns.take i).length ≤ ns.length := by rw [List.length_take]; omega
      rw [List.length_map]
      exact sz_lt (by omega)
    · rw [upd_same]
      have ep : putK ((dictOf (ns.take i)).map kvT) (Sum.inr n) (.bl true) = (putA (dictOf (ns.take i)) n true).map kvT := putK_map (f := Sum.inr) (g := V.bl) inr_inj _ _ _
      have et : ns.take (i + 1) = ns.take i ++ [n] := by rw [List.take_succ, hn]; rfl
      rw [ep, et]
      unfold dictOf
      rw [List.foldl_append]; rfl
  · have hi2 : i = ns.length := by omega
    subst hi2
    rw [List.take_length] at hd
    exact .inl ⟨hst H' e, k Dl H' hD e hd⟩
theorem dcb_L {a : Addr} {j : Nat} {ns : List Str} (hx : SqL K H a (ns.map V.str)) (hl : ns.length < 100000) (hj : ∀ x, (((wipe σ [j]).set j (some x))[j]?) = some (some x)) (hw : ∀ x, wipe ((wipe σ [j]).set j (some x)) [j] = wipe σ [j])
    (k : ∀ Dl H', H Dl = none → Ex H H' → H' Dl = some (.dK ((dictOf ns).map kvT)) → Q (.ref Dl) H') : ∃ xs, SqL K H a xs ∧ DcBody (Itl K a) σ j Q H :=
  ⟨_, hx, dcb hl hj hw (fun i H' e hi => ⟨_, (ns.map V.str)[i]'(by rw [List.length_map]; exact hi), ex_l e hx, List.getElem?_eq_getElem _⟩) (fun i H' x H'' e q => ⟨q.1, q.2 _ (ex_l e hx)⟩) (fun H' e => ⟨_, ex_l e hx, by rw [List.length_map]; exact Nat.le_refl _⟩) k⟩
theorem dcb_T {a : Addr} {j : Nat} {ns : List Str} (hx : SqT K H a (ns.map V.str)) (hl : ns.length < 100000) (hj : ∀ x, (((wipe σ [j]).set j (some x))[j]?) = some (some x)) (hw : ∀ x, wipe ((wipe σ [j]).set j (some x)) [j] = wipe σ [j])
    (k : ∀ Dl H', H Dl = none → Ex H H' → H' Dl = some (.dK ((dictOf ns).map kvT)) → Q (.ref Dl) H') : ∃ xs, SqT K H a xs ∧ DcBody (Itt K a) σ j Q H :=
  ⟨_, hx, dcb hl hj hw (fun i H' e hi => ⟨_, (ns.map V.str)[i]'(by rw [List.length_map]; exact hi), ex_t e hx, List.getElem?_eq_getElem _⟩) (fun i H' x H'' e q => ⟨q.1, q.2 _ (ex_t e hx)⟩) (fun H' e => ⟨_, ex_t e hx, by rw [List.length_map]; exact Nat.le_refl _⟩) k⟩
/-- t + u, empty or not -/
theorem catA {a b : Addr} {xs ys : List V} (ha : SqT K H a xs) (hb : SqT K H b ys) (hl : xs.length + ys.length ≤ 1000) (k : ∀ p H', Ex H H' → SqT K H' p (xs ++ ys) → Q (.ref p) H') : rAddX K (.ref a) (.ref b) H Q := by
  refine .inr (.inr ⟨a, b, xs, ys, rfl, rfl, ha, hb, sz_of (by omega), fun z => ?_, fun _ z => ?_, fun _ _ p hp => ?_⟩)
  · subst z; exact k b H (Ex.refl H) hb
  · subst z; exact k a H (Ex.refl H) (by rw [List.append_nil]; exact ha)
  · exact k p _ (Ex.new hp) (st_of upd_same)
def mergeA (a b : List (Str × Bool)) : List (Str × Bool) := b.foldl (fun acc q => putA acc q.1 q.2) a
theorem mergeX_map (a b : List (Str × Bool)) : mergeX (a.map kvT) (b.map kvT) = (mergeA a b).map kvT := by
  induction b generalizing a with
  | nil => rfl
  | cons q b ih =>
    show mergeX (putK (a.map kvT) (Sum.inr q.1) (.bl q.2)) (b.map kvT) = (mergeA (putA a q.1 q.2) b).map kvT
    have ep : putK (a.map kvT) (Sum.inr q.1) (.bl q.2) = (putA a q.1 q.2).map kvT := putK_map (f := Sum.inr) (g := V.bl) inr_inj _ _ _
    rw [ep]
    exact ih _
def namesDict (d : Df) : List (Str × Bool) := d.steps.foldl (fun acc s => mergeA acc (dictOf (actNames s.2))) (dictOf (d.h.params ++ d.h.fingers ++ d.h.rows))
noncomputable def nmOf (d : Df) : List Str := sortU (keysA (namesDict d))
theorem nodup_put {es : List (Str × Bool)} {k : Str} {v : Bool} (h : (keysA es).Nodup) : (keysA (putA es k v)).Nodup := by
  rw [keys_put]
  split
  · exact h
  · exact List.nodup_append.mpr ⟨h, by simp, fun a ha b hb => by rw [List.mem_singleton.mp hb]; exact fun q => by subst q; contradiction⟩
theorem keys_sub_put {es : List (Str × Bool)} {k x : Str} {v : Bool} (h : x ∈ keysA (putA es k v)) : x = k ∨ x ∈ keysA es := by
  rw [keys_put] at h
  split at h
  · exact .inr h
  · rcases List.mem_append.mp h with z | z
    · exact .inr z
    · exact .inl (List.mem_singleton.mp z)
theorem dict_facts (ns : List Str) : ∀ es : List (Str × Bool), (keysA es).Nodup → (keysA (ns.foldl (fun acc x => putA acc x true) es)).Nodup ∧ ∀ x, x ∈ keysA (ns.foldl (fun acc x => putA acc x true) es) ↔ x ∈ keysA es ∨ x ∈ ns := by
  induction ns with
  | nil => intro es h; exact ⟨h, fun x => by simp⟩
  | cons n ns ih =>
    intro es h
    obtain ⟨a, b⟩ := ih (putA es n true) (nodup_put h)
    refine ⟨a, fun x => ?_⟩
    rw [List.foldl_cons, b, List.mem_cons]
    constructor
    · rintro (z | z)
      · rcases keys_sub_put z with z | z
        · exact .inr (.inl z)
        · exact .inl z
      · exact .inr (.inr z)
    · rintro (z | z | z)
      · exact .inl (mem_keys_put z)
      · subst z; exact .inl mem_keys_self
      · exact .inr z
theorem merge_facts (b : List (Str × Bool)) : ∀ a : List (Str × Bool), (keysA a).Nodup → (keysA (mergeA a b)).Nodup ∧ ∀ x, x ∈ keysA (mergeA a b) ↔ x ∈ keysA a ∨ x ∈ keysA b := by
  induction b with
  | nil => intro a h; exact ⟨h, fun x => by simp [mergeA, keysA]⟩
  | cons q b ih =>
    intro a h
    obtain ⟨c, d⟩ := ih (putA a q.1 q.2) (nodup_put h)
    refine ⟨c, fun x => ?_⟩
    show x ∈ keysA (mergeA (putA a q.1 q.2) b) ↔ _
    have e : keysA (q :: b) = q.1 :: keysA b := rfl
    rw [d, e, List.mem_cons]
    constructor
    · rintro (z | z)
      · rcases keys_sub_put z with z | z
        · exact .inr (.inl z)
        · exact .inl z
      · exact .inr (.inr z)
    · rintro (z | z | z)
      · exact .inl (mem_keys_put z)
      · subst z; exact .inl mem_keys_self
      · exact .inr z
theorem names_facts (st : List (Int × PA)) : ∀ a : List (Str × Bool), (keysA a).Nodup → (keysA (st.foldl (fun acc s => mergeA acc (dictOf (actNames s.2))) a)).Nodup ∧ ∀ x, x ∈ keysA (st.foldl (fun acc s => mergeA acc (dictOf (actNames s.2))) a) ↔ x ∈ keysA a ∨ ∃ s ∈ st, x ∈ actNames s.2 := by
  induction st with
  | nil => intro a h; exact ⟨h, fun x => by simp⟩
  | cons s st ih =>
    intro a h
    obtain ⟨c, d⟩ := merge_facts (dictOf (actNames s.2)) a h
    obtain ⟨e, f⟩ := ih _ c
    refine ⟨e, fun x => ?_⟩
    rw [List.foldl_cons, f, d]
    have q := (dict_facts (actNames s.2) [] List.nodup_nil).2 x
    unfold dictOf
    rw [q]
    have n0 : x ∉ keysA ([] : List (Str × Bool)) := by simp [keysA]
    constructor
    · rintro ((z | z | z) | ⟨s', hs', z⟩)
      · exact .inl z
      · exact absurd z n0
      · exact .inr ⟨s, List.mem_cons_self .., z⟩
      · exact .inr ⟨s', List.mem_cons_of_mem _ hs', z⟩
    · rintro (z | ⟨s', hs', z⟩)
      · exact .inl (.inl z)
      · rcases List.mem_cons.mp hs' with r | r
        · subst r; exact .inl (.inr (.inr z))
        · exact .inr ⟨s', r, z⟩
theorem nodup_len {xs ys : List Str} (h : xs.Nodup) (hs : ∀ x ∈ xs, x ∈ ys) : xs.length ≤ ys.length := by
  induction xs generalizing ys with
  | nil => exact Nat.zero_le _
  | cons x xs ih =>
    have hx := hs x (List.mem_cons_self ..)
    have n := List.nodup_cons.mp h
    have q := ih (ys := ys.erase x) n.2 fun y hy => by
      have ne : y ≠ x := fun e => n.1 (e ▸ hy)
      exact (List.mem_erase_of_ne ne).mpr (hs y (List.mem_cons_of_mem _ hy))
    have l := List.length_erase_of_mem hx
    have p : 0 < ys.length := List.length_pos_of_mem hx
    rw [List.length_cons]
    omega
/-- what is asked of a def that its names be told -/
structure DfOk (d : Df) : Prop where
  st : ∀ s ∈ d.steps, SpecOk s.2 ∧ (actNames s.2).length ≤ 50 ∧ s.2.parts.length ≤ 10 ∧ ∀ x ∈ actNames s.2, x ∈ U7
  hn : ∀ x ∈ d.h.params ++ d.h.fingers ++ d.h.rows, x ∈ U7
  l1 : d.h.params.length ≤ 10 ∧ d.h.fingers.length ≤ 10 ∧ d.h.rows.length ≤ 10
  l2 : d.steps.length ≤ 100
theorem names_mem (d : Df) : (keysA (namesDict d)).Nodup ∧ ∀ x, x ∈ keysA (namesDict d) ↔ x ∈ d.h.params ++ d.h.fingers ++ d.h.rows ∨ ∃ s ∈ d.steps, x ∈ actNames s.2 := by
  obtain ⟨a, b⟩ := dict_facts (d.h.params ++ d.h.fingers ++ d.h.rows) [] List.nodup_nil
  obtain ⟨c, e⟩ := names_facts d.steps _ a
  refine ⟨c, fun x => ?_⟩
  unfold namesDict dictOf
  unfold dictOf at e
  rw [e, b]
  have n0 : x ∉ keysA ([] : List (Str × Bool)) := by simp [keysA]
  constructor
  · rintro ((z | z) | z)
    · exact absurd z n0
    · exact .inl z
    · exact .inr z
  · rintro (z | z)
    · exact .inl (.inr z)
    · exact .inr z
end
end B72


set_option Elab.async false
set_option linter.all false
set_option maxRecDepth 100000
set_option maxHeartbeats 400000
/-! C14: names_of, numbers_of, head_row. -/
namespace B72
open PySem L2 Evl R72 PyProof.Rows
section
variable {K : PySem.W.Frag} {w : World} {G G' H H' : Hp} {Q : VK} {E : XK} {σ : L2.St} {D : Ends} {v u : V} {d : Df}
theorem names_step (st : List (Int × PA)) (a : List (Str × Bool)) (s : Int × PA) : (st ++ [s]).foldl (fun acc s => mergeA acc (dictOf (actNames s.2))) a = mergeA (st.foldl (fun acc s => mergeA acc (dictOf (actNames s.2))) a) (dictOf (actNames s.2)) := by
  rw [List.foldl_append]; rfl
theorem mergeA_len (b : List (Str × Bool)) : ∀ a : List (Str × Bool), (mergeA a b).length ≤ a.length + b.length := by
  induction b with
  | nil => intro a; exact Nat.le_refl _
  | cons q b ih =>
    intro a
    have := ih (putA a q.1 q.2)
    have := len_put_le a q.1 q.2
    show (mergeA (putA a q.1 q.2) b).length ≤ a.length + (b.length + 1)
    omega
theorem names_len (d : Df) (ok : DfOk d) (i : Nat) : ((d.steps.take i).foldl (fun acc s => mergeA acc (dictOf (actNames s.2))) (dictOf (d.h.params ++ d.h.fingers ++ d.h.rows))).length ≤ 30 + 50 * i := by
  induction i with
  | zero =>
    have a := dictOf_len (d.h.params ++ d.h.fingers ++ d.h.rows)
    have := ok.l1
    simp only [List.length_append] at a
    show (dictOf (d.h.params ++ d.h.fingers ++ d.h.rows)).length ≤ _
    omega
  | succ i ih =>
    rw [List.take_succ]
    cases h : d.steps[i]? with
    | none => simp only [Option.toList_none, List.append_nil]; omega
    | some s =>
      rw [show (some s).toList = [s] from rfl, names_step]
      have a := mergeA_len (dictOf (actNames s.2)) ((d.steps.take i).foldl (fun acc s => mergeA acc (dictOf (actNames s.2))) (dictOf (d.h.params ++ d.h.fingers ++ d.h.rows)))
      have b := dictOf_len (actNames s.2)
      have c := (ok.st s (List.mem_of_getElem? h)).2.1
      omega
theorem s_names_of (P : PF K w) (hd : Dp K H v d.d) (ok : DfOk d) (k : ∀ p H', H p = none → Ex H H' → H' p = some (.lst ((nmOf d).map V.str)) → Q (.ref p) H') : sp_names_of K w [v] H Q E := by
  refine ⟨rfl, ?_⟩
  unfold t_names_of
  obtain ⟨da, a1, a2, a3, a4, sv, rfl, I⟩ := di_of hd
  have hl := ok.l1
  refine u_seq (u_asg (u_dcT (u_op (u_op ?_))))
  refine pv_op (pv_var (v := .ref da) rfl) pv_c (pr_ixt I.hd rfl) _ (pv_op (pv_var (v := .ref da) rfl) pv_c (pr_ixt I.hd rfl) _ ?_)
  refine catA I.h1 I.h2 (by rw [List.length_map, List.length_map]; omega) fun p1 H1 e1 s1 => ?_
  refine pv_op (pv_var (v := .ref da) rfl) pv_c (pr_ixt (I.ex e1).hd rfl) _ ?_
  refine catA s1 (I.ex e1).h3 (by simp only [List.length_append, List.length_map]; omega) fun p2 H2 e2 s2 => ?_
  rw [← List.map_append, ← List.map_append] at s2
  have e02 := e1.trans e2
  refine ⟨p2, rfl, .inr (dcb_T s2 (by simp only [List.length_append]; omega) (fun _ => rfl) (fun _ => rfl) fun fd H3 hfd e3 h3 => ?_)⟩
  have e03 := e02.trans e3
  have hfd0 : H fd = none := fresh_back e02 hfd
  dsimp only [gName]
  have I3 := I.ex e03
  refine u_seq (f_T (a := a4) (xs := sv) (pv_op (pv_var (v := .ref da) rfl) pv_c (pr_ixt I3.hd rfl)) I3.h4
    (fun i σ' H' => (∃ o2 o3 o4, σ' = [some (.ref da), some (.ref fd), o2, o3, o4]) ∧ Ex H H' ∧ H' fd = some (.dK (((d.steps.take i).foldl (fun acc s => mergeA acc (dictOf (actNames s.2))) (dictOf (d.h.params ++ d.h.fingers ++ d.h.rows))).map kvT)))
    ⟨⟨_, _, _, rfl⟩, e03, h3⟩ (fun i σ' H' _ q => (I.ex q.2.1).h4) (fun i x σ' H' hx q => ?_) fun σ' H' q => ?_)
  · obtain ⟨⟨o2, o3, o4, rfl⟩, e', h'⟩ := q
    have hi : i < sv.length := (List.getElem?_eq_some_iff.mp hx).1
    have hsl : sv.length = d.steps.length := by rw [dpAll_len I.hs, List.length_map]
    have hsi : d.steps[i]? = some (d.steps[i]'(by omega)) := List.getElem?_eq_getElem (by omega)
    obtain ⟨x', hx', dx⟩ := dpAll_get I.hs (i := i) (d := stepD (d.steps[i]'(by omega))) (by rw [List.getElem?_map, hsi]; rfl)
    rw [hx] at hx'
    cases hx'
    have hm := List.mem_of_getElem? hsi
    generalize d.steps[i]'(by omega) = s at hsi dx hm
    obtain ⟨q1, q2, q3, q4⟩ := ok.st s hm
    obtain ⟨xa, xs, rfl, ht, dxs⟩ := dp_tup (dp_ex e' _ dx)
    obtain ⟨l0, r, rfl, dl, dr⟩ := dpAll_cons dxs
    obtain ⟨av, r, rfl, dav, dr⟩ := dpAll_cons dr
    cases dpAll_nil dr
    cases dp_int dl
    refine g_n2 ht ?_
    refine u_drop (u_bm (pv_var (v := .ref fd) rfl _ ⟨.inr (.inr (.inl ⟨rfl, .inl ⟨_, h'⟩⟩)), u_cons (u_dcT ?_)⟩))
    refine t_call (pa_cons (pv_var (v := av) rfl) pa_nil) (s_act_names P dav q1 q2 q3 fun p4 H4 hp4 e4 h4 => ?_)
    refine ⟨p4, rfl, .inl (dcb_L (sq_of h4) (by omega) (fun _ => rfl) (fun _ => rfl) fun p5 H5 hp5 e5 h5 => ?_)⟩
    have h5fd := e5 _ _ (e4 _ _ h')
    have hne : fd ≠ p5 := fun z => by
      rw [z] at h'
      have := e4 _ _ h'
      rw [hp5] at this
      cases this
    have nl := names_len d ok i
    have dl2 := dictOf_len (actNames s.2)
    have hl2 := ok.l2
    refine pa_nil _ ⟨fd, p5, rfl, rfl, hne, .inl ⟨_, _, h5fd, h5, by rw [List.length_map, List.length_map]; exact sz_of (by omega), ⟨⟨_, _, _, rfl⟩, ((e'.trans e4).trans e5).mut hfd0, ?_⟩⟩⟩
    rw [upd_same, mergeX_map, List.take_succ, hsi, show (some s).toList = [s] from rfl, names_step]
  · obtain ⟨⟨o2, o3, o4, rfl⟩, e', h'⟩ := q
    have hsl : sv.length = d.steps.length := by rw [dpAll_len I.hs, List.length_map]
    have et : d.steps.take sv.length = d.steps := by rw [hsl, List.take_length]
    rw [et] at h'
    have h' : H' fd = some (.dK ((namesDict d).map kvT)) := h'
    obtain ⟨nd, nm⟩ := names_mem d
    have hk7 : (keysA (namesDict d)).length ≤ 7 := by
      refine nodup_len (ys := U7) nd fun x hx => ?_
      rcases (nm x).mp hx with z | ⟨s, hs, z⟩
      · exact ok.hn x z
      · exact (ok.st s hs).2.2.2 x z
    dsimp only
    refine u_ret ?_
    refine pv_var (v := .ref fd) rfl _ (.inl ⟨fd, _, keysA (namesDict d), rfl, .inl h', ?_, by omega, fun ys p hp hs hpn => ?_⟩)
    · unfold keysA
      rw [List.map_map, List.map_map]
      rfl
    · have ey : ys = nmOf d := sortU_is hp hs
      subst ey
      exact k p _ (fresh_back e' hpn) (e'.trans (Ex.new hpn)) upd_same
theorem sortU_perm (ks : List Str) : (sortU ks).Perm ks := by
  unfold sortU
  split
  · rename_i h
    exact (Classical.choose_spec h).1
  · exact List.Perm.refl _
theorem nm_len (ok : DfOk d) : (nmOf d).length ≤ 7 := by
  obtain ⟨nd, nm⟩ := names_mem d
  have e : (nmOf d).length = (keysA (namesDict d)).length := (sortU_perm _).length_eq
  rw [e]
  refine nodup_len (ys := U7) nd fun x hx => ?_
  rcases (nm x).mp hx with z | ⟨s, hs, z⟩
  · exact ok.hn x z
  · exact (ok.st s hs).2.2.2 x z
theorem nm_mem (x : Str) : x ∈ nmOf d ↔ x ∈ d.h.params ++ d.h.fingers ++ d.h.rows ∨ ∃ s ∈ d.steps, x ∈ actNames s.2 := ((sortU_perm _).mem_iff).trans ((names_mem d).2 x)
/-- the numbers of a def -/
noncomputable def numsOf (d : Df) : List Str := (nmOf d).filter fun x => !decide (x ∈ d.h.rows)
theorem inV_dec (x : Str) (ys : List Str) : inV (.str x) (ys.map V.str) = decide (x ∈ ys) := by
  unfold inV
  rw [Bool.eq_iff_iff, List.any_eq_true, decide_eq_true_iff]
  constructor
  · rintro ⟨y, hy, e⟩
    obtain ⟨z, hz, rfl⟩ := List.mem_map.mp hy
    have : z = x := by simpa [eqV] using e
    rw [← this]; exact hz
  · intro h
    exact ⟨.str x, List.mem_map_of_mem h, by simp [eqV]⟩
theorem s_numbers_of (P : PF K w) (hd : Dp K H v d.d) (ok : DfOk d) (k : ∀ p H', H p = none → Ex H H' → H' p = some (.lst ((numsOf d).map V.str)) → Q (.ref p) H') : sp_numbers_of K w [v] H Q E := by
  refine ⟨rfl, ?_⟩
  unfold t_numbers_of
  obtain ⟨da, a1, a2, a3, a4, sv, rfl, I⟩ := di_of hd
  refine u_ret (u_lc (u_iseq ?_))
  refine t_call (pa_cons (pv_var (v := .ref da) rfl) pa_nil) (s_names_of P hd ok fun p1 H1 hp1 e1 h1 => ?_)
  refine ⟨p1, rfl, .inl ⟨_, sq_of h1, fun Dl hD => ?_⟩⟩
  have hD0 : H Dl = none := fresh_back e1 hD
  have hlen : (nmOf d).length ≤ 1000 := by have := nm_len ok; omega
  refine lc_list (xs := (nmOf d).map V.str) (fun i H' => Ex H1 H' ∧ H' Dl = some (.lst ((((nmOf d).take i).filter fun x => !decide (x ∈ d.h.rows)).map V.str))) ⟨Ex.new hD, upd_same⟩ (fun i H' _ q => sq_of (q.1 _ _ h1)) (fun i x H' hx q => ?_) fun H' q => ?_
  · obtain ⟨e2, h2⟩ := q
    rw [List.getElem?_map] at hx
    obtain ⟨n, hn, rfl⟩ := Option.map_eq_some_iff.mp hx
    refine ⟨rfl, ?_⟩
    have I2 := I.ex (e1.trans e2)
    have et : (nmOf d).take (i + 1) = (nmOf d).take i ++ [n] := by rw [List.take_succ, hn]; rfl
    refine u_test (u_op (pv_var (v := .str n) rfl _ (pv_op (pv_var (v := .ref da) rfl) pv_c (pr_ixt I2.hd rfl) _ (.inl ⟨a3, _, rfl, .inr I2.h3, rfl, flat_strs _, ⟨_, rfl, ?_⟩⟩))))
    rw [et, List.filter_append]
    show if (!inV (.str n) (d.h.rows.map V.str)) = true then _ else _
    rw [inV_dec]
    by_cases hr : n ∈ d.h.rows
    · rw [decide_eq_true hr]
      refine u_false ⟨e2, ?_⟩
      have ef : [n].filter (fun x => !decide (x ∈ d.h.rows)) = [] := by simp [hr]
      rw [ef, List.append_nil]
      exact h2
    · rw [decide_eq_false hr]
      refine u_true (pv_var (v := .str n) rfl _ ⟨_, h2, ?_, e2.mut hD, ?_⟩)
      · rw [List.length_map]
        have a := List.length_filter_le (fun x => !decide (x ∈ d.h.rows)) ((nmOf d).take i)
        have b : ((nmOf d).take i).length ≤ (nmOf d).length := by rw [List.length_take]; omega
        exact sz_lt (by omega)
      · have ef : [n].filter (fun x => !decide (x ∈ d.h.rows)) = [n] := by simp [hr]
        rw [upd_same, ef, List.map_append]; rfl
  · obtain ⟨e2, h2⟩ := q
    rw [List.length_map, List.take_length] at h2
    exact k Dl H' hD0 (e1.trans e2) h2
theorem nums_len (ok : DfOk d) : (numsOf d).length ≤ 7 := Nat.le_trans (List.length_filter_le _ _) (nm_len ok)
theorem nums_mem (x : Str) : x ∈ numsOf d ↔ x ∈ nmOf d ∧ x ∉ d.h.rows := by
  unfold numsOf
  rw [List.mem_filter]
  simp
noncomputable def hdOf (d : Df) (first : Int) : Hd := ⟨d.h.params, numsOf d, d.h.rows, first⟩
theorem s_head_row (P : PF K w) (hd : Dp K H v d.d) (ok : DfOk d) {first : Int} (k : ∀ p H', Ex H H' → Dp K H' (.ref p) (hdOf d first).d → Q (.ref p) H') : sp_head_row K w [v, .int first] H Q E := by
  refine ⟨rfl, ?_⟩
  unfold t_head_row
  obtain ⟨da, a1, a2, a3, a4, sv, rfl, I⟩ := di_of hd
  refine u_seq (a_asg (pv_var (v := .ref da) rfl) ⟨da, _, rfl, I.hd, rfl, _, _, rfl, _, _, rfl, _, _, rfl, _, _, rfl, _, _, rfl, rfl, ?_⟩)
  dsimp only
  refine u_ret (u_tup (u_cons (pv_c _ (u_cons (pv_var (v := .ref a1) rfl _ (u_cons ?_))))))
  refine (?_ : tCons _ tNil _ _ _)
  refine u_cons (t_call (pa_cons (pv_var (v := .ref da) rfl) pa_nil) (s_numbers_of P hd ok fun p1 H1 hp1 e1 h1 => ?_))
  refine pa_nil _ ⟨p1, _, rfl, .inl ⟨sq_of h1, fun p2 hp2 => ?_⟩⟩
  have e2 := Ex.new (o := HO.tup ((numsOf d).map V.str)) hp2
  refine u_cons (pv_var (v := .ref a3) rfl _ (u_cons (pv_var (v := .int first) rfl _ ?_)))
  refine pa_nil _ ⟨sz_of (by show 5 ≤ 100000; decide), fun p3 hp3 => ?_⟩
  have e3 := Ex.new (o := HO.tup [.str "def", .ref a1, .ref p2, .ref a3, .int first]) hp3
  have e := (e1.trans e2).trans e3
  exact k p3 _ e (.tup (st_of upd_same) (.cons (.str _) (.cons (.tup (I.ex e).h1 (dpAll_strs _)) (.cons (.tup (st_of (e3 _ _ upd_same)) (dpAll_strs _)) (.cons (.tup (I.ex e).h3 (dpAll_strs _)) (.cons (.int _) .nil))))))
end
end B72


set_option Elab.async false
set_option linter.all false
set_option maxRecDepth 100000
set_option maxHeartbeats 400000
/-! C15: a step's row. -/
namespace B72
open PySem L2 Evl R72 PyProof.Rows
def rowAct (num : Int → Int) (hdn : Str → Int) : PA → RA
  | .plain (.iff s g t j) => .iff s g t (num j)
  | .plain (.go j) => .go (num j)
  | .plain a => a
  | .call x f gs => .call x (hdn f) gs
section
variable {K : PySem.W.Frag} {w : World} {G G' H H' : Hp} {Q : VK} {E : XK} {σ : L2.St} {D : Ends} {v u : V} {wide : Int} {h : Hr} {hs : List Hr} {J : Int → Prop} {num : Int → Int} {hdn : Str → Int}
/-- what is known of the two dicts -/
structure Num (H : Hp) (nd hdd : Addr) (nm : Str) (num : Int → Int) (hdn : Str → Int) (a : PA) (lab : Int) : Prop where
  ex : ∃ kvs hk, H nd = some (.dT kvs) ∧ H hdd = some (.dK hk) ∧ valV kvs [.inr nm, .inl lab] = some (.int (num lab)) ∧ (∀ s g t j, a = .plain (.iff s g t j) → valV kvs [.inr nm, .inl j] = some (.int (num j))) ∧ (∀ j, a = .plain (.go j) → valV kvs [.inr nm, .inl j] = some (.int (num j))) ∧ ∀ x f gs, a = .call x f gs → valV hk (.inr f) = some (.int (hdn f))
theorem cut1_1 (x y : V) (xs : List V) : cutV (x :: (xs ++ [y])) (some 1) (some (-1)) = xs := by
  unfold cutV
  have hl : (x :: (xs ++ [y])).length = xs.length + 2 := by simp
  have e1 : HT.sIx (x :: (xs ++ [y])).length 0 (some 1) = 1 := by
    have : HT.sIx (x :: (xs ++ [y])).length 0 (some 1) = min 1 (x :: (xs ++ [y])).length := HT.sIx_nat _ 0 1
    rw [this, hl]; omega
  have e2 : HT.sIx (x :: (xs ++ [y])).length (x :: (xs ++ [y])).length (some (-1)) = xs.length + 1 := by
    unfold HT.sIx
    rw [hl]
    show (if (-1 : Int) < 0 then ((-1 : Int) + ((xs.length + 2 : Nat) : Int)).toNat else _) = _
    rw [if_pos (by decide)]
    omega
  rw [e1, e2]
  simp
theorem act_kinds {a : PA} (ok : ActOk wide h hs J a) : (∃ s g t j, a = .plain (.iff s g t j)) ∨ (∃ j, a = .plain (.go j)) ∨ (∃ x f gs, a = .call x f gs) ∨ (∃ b : RA, a = .plain b ∧ rowAct num hdn a = b ∧ inV (.str a.kind) [V.str "if", .str "go"] = false ∧ a.kind ≠ "call") := by
  have kin : ∀ k : Str, k ∈ ([("set" : Str), "add", "plus", "minus", "times", "over", "rest", "mid", "row", "get", "put", "length", "ask", "tell", "check"] : List Str) ∨ k = "back" → inV (.str k) [V.str "if", .str "go"] = false ∧ k ≠ "call" := by
    intro k hk
    simp only [List.mem_cons, List.mem_nil_iff, or_false] at hk
    rcases hk with (z | z | z | z | z | z | z | z | z | z | z | z | z | z | z) | z <;> subst z <;> decide
  cases a with
  | call x f gs => exact .inr (.inr (.inl ⟨x, f, gs, rfl⟩))
  | plain a =>
    cases a with
    | iff s g t j => exact .inl ⟨s, g, t, j, rfl⟩
    | go j => exact .inr (.inl ⟨j, rfl⟩)
    | call => exact ok.elim
    | sum k x y z =>
      refine .inr (.inr (.inr ⟨_, rfl, rfl, kin _ ?_⟩))
      have hk : k = "add" ∨ k = "plus" ∨ k = "minus" ∨ k = "times" := by simpa [sumKs] using ok.1
      show k ∈ _ ∨ _
      rcases hk with z | z | z | z <;> subst z <;> simp
    | over k x y z =>
      refine .inr (.inr (.inr ⟨_, rfl, rfl, kin _ ?_⟩))
      show k ∈ _ ∨ _
      rcases ok.1 with z | z <;> subst z <;> simp
    | _ => exact .inr (.inr (.inr ⟨_, rfl, rfl, kin _ (by simp [PA.kind, RA.kind])⟩))
theorem s_step_row {pl nd hdd : Addr} {nm : Str} {lab : Int} {a : PA} {av : V} {looked : Bool} (hp : H pl = some (.tup [.str nm, .int lab])) (hd : Dp K H av a.d) (ok : ActOk wide h hs J a) (hn : Num H nd hdd nm num hdn a lab)
    (k : ∀ p H', Ex H H' → Dp K H' (.ref p) (Row.mk (rowAct num hdn a) (nm, lab) looked (num lab + 1)).d → Q (.ref p) H') : sp_step_row K w [.ref pl, av, .ref nd, .ref hdd, .bl looked] H Q E := by
  refine ⟨rfl, ?_⟩
  unfold t_step_row
  obtain ⟨kvs, hk, hnd, hhd, n1, n2, n3, n4⟩ := hn.ex
  obtain ⟨pa, xs, rfl, hpa, dxs⟩ := dp_tup hd
  obtain ⟨k0, ps, rfl, dk, dps⟩ := dpAll_cons dxs
  cases dp_str dk
  have hpl : ps.length = a.parts.length := dpAll_len dps
  have hparts : a.parts.length ≤ 10 := by
    cases a with
    | call x f gs => show 3 ≤ 10; decide
    | plain a => cases a <;> (first | (show 1 ≤ 10; decide) | (show 2 ≤ 10; decide) | (show 3 ≤ 10; decide) | (show 4 ≤ 10; decide))
  refine u_seq (u_asg (u_slL (pv_var (v := .ref pa) rfl _ (u_part (pv_c _ ⟨1, rfl, u_np ?_⟩)))))
  have e1s : HT.sIx (V.str a.kind :: ps).length 0 (some 1) = 1 := by
    have : HT.sIx (V.str a.kind :: ps).length 0 (some 1) = min 1 (V.str a.kind :: ps).length := HT.sIx_nat _ 0 1
    rw [this]
    simp only [List.length_cons]; omega
  refine .inr ⟨pa, _, rfl, hpa, fun z => by rw [e1s] at z; exact absurd z.1 (by decide), fun _ p1 hp1 => ?_⟩
  rw [cut1]
  show gName 5 (.ref p1) _ (upd H p1 (.tup ps)) _
  have e1 := Ex.new (o := HO.tup ps) hp1
  have h1 : (upd H p1 (.tup ps)) p1 = some (.tup ps) := upd_same
  generalize upd H p1 (HO.tup ps) = H1 at e1 h1
  dsimp only [gName]
  have kp : [V.str nm, .int lab] = ([.inr nm, .inl lab] : List Key).map kV := rfl
  have dg : ∀ {H'} {b : Addr} {j : Int}, Ex H H' → H' b = some (.tup [.str nm, .int j]) → valV kvs [.inr nm, .inl j] = some (.int (num j)) → DGet H' nd (.ref b) (some (.int (num j))) := by
    intro H' b j e hb hv
    have := DGet.t (k := [.inr nm, .inl j]) (e _ _ hnd) (b := b) hb
    rw [hv] at this
    exact this
  refine u_seq (u_asg (pv_op (pv_get (pv_var (v := .ref nd) rfl) (pv_var (v := .ref pl) rfl) (dg e1 (e1 _ _ hp) n1)) pv_c pr_add _ ?_))
  dsimp only [gName]
  -- the end
  have fin : ∀ (H' : Hp) (pp : Addr) (vs : List V) (ra : RA), Ex H H' → SqT K H' pp vs → DpAll K H' vs ra.parts → ra.kind = a.kind → ra = rowAct num hdn a →
      tRet (tTup (tCons (tOp (rIx K) (tVar 1) (tC (.int 0))) (tCons (tVar 0) (tCons (tVar 4) (tCons (tVar 5) (tCons (tVar 6) tNil)))))) { nx := fun _ H' => Q .non H', rt := Q } [some (.ref pl), some (.ref pa), some (.ref nd), some (.ref hdd), some (.bl looked), some (.ref pp), some (.int (num lab + 1))] H' := by
    intro H' pp vs ra e hpp dv hk hra
    refine a_retT (pa_cons (pv_op (pv_var (v := .ref pa) rfl) pv_c (pr_ixt (ex_t e hpa) (atI_zero _ _))) (pa_cons (pv_var (v := .ref pl) rfl) (pa_cons (pv_var (v := .bl looked) rfl) (pa_cons (pv_var (v := .ref pp) rfl) (pa_cons (pv_var rfl) pa_nil))))) (by show 5 ≤ 100000; decide) fun p9 hp9 => ?_
    have e9 := Ex.new (o := HO.tup [.str a.kind, .ref pl, .bl looked, .ref pp, .int (num lab + 1)]) hp9
    rw [← hk] at e9 ⊢
    refine k p9 _ (e.trans e9) ?_
    rw [← hra]
    exact .tup (st_of upd_same) (.cons (.str _) (.cons (.tup (st_of (e9 _ _ (e _ _ hp))) (.cons (.str _) (.cons (.int _) .nil))) (.cons (.bl _) (.cons (.tup (ex_t e9 hpp) (dpAll_ex e9 _ dv)) (.cons (.int _) .nil)))))
  have sgE : ∀ pp, [some (V.ref pl), some (.ref pa), some (.ref nd), some (.ref hdd), some (.bl looked), some (.ref pp), some (.int (num lab + 1))] = [some (V.ref pl), some (.ref pa), some (.ref nd), some (.ref hdd), some (.bl looked), some (.ref pp), some (.int (num lab + 1))] := fun _ => rfl
  -- behind the first if
  have second : ∀ (H' : Hp) (pp : Addr) (vs : List V) (ra : RA), Ex H H' → SqT K H' pp vs → DpAll K H' vs ra.parts → ra.kind = a.kind → ra = rowAct num hdn a → a.kind ≠ "call" →
      (C8.tCut (tIfS (tTest (tOp (rEqX K) (tOp (rIx K) (tVar 1) (tC (.int (0)))) (tC (.str "call")))) (tAsg (tTup (tCons (tOp (rIx K) (tVar 1) (tC (.int (1)))) (tCons (tDGet (tVar 3) (tOp (rIx K) (tVar 1) (tC (.int (2))))) (tCons (tOp (rIx K) (tVar 1) (tC (.int (3)))) tNil)))) (gName 5)) tNext) (tRet (tTup (tCons (tOp (rIx K) (tVar 1) (tC (.int 0))) (tCons (tVar 0) (tCons (tVar 4) (tCons (tVar 5) (tCons (tVar 6) tNil)))))))) { nx := fun _ H' => Q .non H', rt := Q } [some (.ref pl), some (.ref pa), some (.ref nd), some (.ref hdd), some (.bl looked), some (.ref pp), some (.int (num lab + 1))] H' := by
    intro H' pp vs ra e hpp dv hk hra hc
    refine u_cut ⟨fun σ' H'' => σ' = [some (.ref pl), some (.ref pa), some (.ref nd), some (.ref hdd), some (.bl looked), some (.ref pp), some (.int (num lab + 1))] ∧ H'' = H', ?_, fun σ' H'' z => by rw [z.1, z.2]; exact fin H' pp vs ra e hpp dv hk hra⟩
    exact a_if (pt_test (pv_eqS (pv_op (pv_var (v := .ref pa) rfl) pv_c (pr_ixt (ex_t e hpa) (atI_zero _ _))) pv_c)) (fun hb => absurd (of_decide_eq_true hb) hc) fun _ => u_next ⟨rfl, rfl⟩
  -- the first if, its test
  have tst : ∀ (Q' : Bool → Hp → Prop), (∀ H', Ex H H' → H' p1 = some (.tup ps) → Q' (inV (.str a.kind) [V.str "if", .str "go"]) H') → tTest (tOp (rInX K false) (tOp (rIx K) (tVar 1) (tC (.int (0)))) (tTup (tCons (tC (.str "if")) (tCons (tC (.str "go")) tNil)))) [some (.ref pl), some (.ref pa), some (.ref nd), some (.ref hdd), some (.bl looked), some (.ref p1), some (.int (num lab + 1))] H1 Q' := by
    intro Q' q
    refine u_test (u_op (pv_op (pv_var (v := .ref pa) rfl) pv_c (pr_ixt (ex_t e1 hpa) (atI_zero _ _)) _ ?_))
    refine t_tup (pa_cons pv_c (pa_cons pv_c pa_nil)) (by show 2 ≤ 100000; decide) fun p5 hp5 => .inl ⟨p5, _, rfl, .inr (st_of upd_same), rfl, rfl, ⟨_, rfl, ?_⟩⟩
    exact q _ (e1.trans (Ex.new hp5)) (Ex.new hp5 _ _ h1)
  -- parts behind a jump told by its number
  have jump : ∀ (H2 : Hp) (init : List V) (j : Int) (Q' : VK), Ex H H2 → ps = init ++ [.int j] → init.length ≤ 10 → valV kvs [.inr nm, .inl j] = some (.int (num j)) → (∀ p H', Ex H H' → SqT K H' p (init ++ [.int (num j)]) → Q' (.ref p) H') →
      tOp (rAddX K) (tSl (rSlX K) (tVar 1) (tPart (tC (.int (1)))) (tPart (tUn rNegX (tC (.int (1)))))) (tTup (tCons (tDGet (tVar 2) (tTup (tCons (tOp (rIx K) (tVar 0) (tC (.int (0)))) (tCons (tOp (rIx K) (tVar 1) (tUn rNegX (tC (.int (1))))) tNil)))) tNil)) [some (.ref pl), some (.ref pa), some (.ref nd), some (.ref hdd), some (.bl looked), some (.ref p1), some (.int (num lab + 1))] H2 Q' := by
    intro H2 init j Q' e2 eps hil hv q
    rw [eps] at hpa
    have e2s : HT.sIx (V.str a.kind :: (init ++ [V.int j])).length 0 (some 1) = 1 := by rw [← eps]; exact e1s
    refine u_op (u_slL (pv_var (v := .ref pa) rfl _ (u_part (pv_c _ ⟨1, rfl, u_part (pv_neg pv_c _ ⟨_, rfl, ?_⟩)⟩))))
    refine .inr ⟨pa, _, rfl, ex_t e2 hpa, fun z => by rw [e2s] at z; exact absurd z.1 (by decide), fun _ p5 hp5 => ?_⟩
    rw [cut1_1]
    have e5 := Ex.new (o := HO.tup init) hp5
    have e25 := e2.trans e5
    have h5 : (upd H2 p5 (.tup init)) p5 = some (.tup init) := upd_same
    generalize upd H2 p5 (HO.tup init) = H5 at e5 e25 h5
    refine u_tup (u_cons (pv_var (v := .ref nd) rfl _ ?_))
    have hpa5 : SqT K H5 pa ((V.str a.kind :: init) ++ [.int j]) := ex_t e25 hpa
    refine t_tup (pa_cons (pv_op (pv_var (v := .ref pl) rfl) pv_c (pr_ixt (st_of (e25 _ _ hp)) (atI_zero _ _))) (pa_cons (pv_op (pv_var (v := .ref pa) rfl) (pv_neg pv_c) (pr_ixt hpa5 (atI_last _ _))) pa_nil)) (by show 2 ≤ 100000; decide) fun p6 hp6 => ?_
    have e6 := Ex.new (o := HO.tup [.str nm, .int j]) hp6
    refine ⟨nd, _, rfl, dg (e25.trans e6) upd_same hv, ?_⟩
    refine pa_nil _ ⟨sz_of (by show 1 ≤ 100000; decide), fun p7 hp7 => ?_⟩
    have e7 := Ex.new (o := HO.tup [.int (num j)]) hp7
    exact catA (st_of (e7 _ _ (e6 _ _ h5))) (st_of upd_same) (by show init.length + 1 ≤ 1000; omega) fun p8 H8 e8 s8 => q p8 H8 (e25.trans (e6.trans (e7.trans e8))) s8
  rcases act_kinds (num := num) (hdn := hdn) ok with ⟨sA, g, tB_, j, ea⟩ | ⟨j, ea⟩ | ⟨x, f, gs, ea⟩ | ⟨b, ea, er, hin, hc⟩
  · subst ea
    obtain ⟨v1, r, rfl, d1, dps⟩ := dpAll_cons dps
    obtain ⟨v2, r, rfl, d2, dps⟩ := dpAll_cons dps
    obtain ⟨v3, r, rfl, d3, dps⟩ := dpAll_cons dps
    obtain ⟨v4, r, rfl, d4, dps⟩ := dpAll_cons dps
    cases dpAll_nil dps
    cases dp_int d4
    refine u_cut ⟨fun σ' H' => ∃ pp, σ' = [some (.ref pl), some (.ref pa), some (.ref nd), some (.ref hdd), some (.bl looked), some (.ref pp), some (.int (num lab + 1))] ∧ Ex H H' ∧ SqT K H' pp ([v1, v2, v3] ++ [.int (num j)]), ?_, fun σ' H' ⟨pp, z1, z2, z3⟩ => by rw [z1]; exact second H' pp _ (.iff sA g tB_ (num j)) z2 z3 (.cons (dp_ex z2 _ d1) (.cons (dp_ex z2 _ d2) (.cons (dp_ex z2 _ d3) (.cons (.int _) .nil)))) rfl rfl (by show ("if" : Str) ≠ "call"; decide)⟩
    refine u_if (tst _ fun H' e' h' => u_true (u_asg (jump H' [v1, v2, v3] j _ e' rfl (by show 3 ≤ 10; decide) (n2 _ _ _ _ rfl) fun p H2 e2 s2 => ⟨p, rfl, e2, s2⟩)))
  · subst ea
    obtain ⟨v4, r, rfl, d4, dps⟩ := dpAll_cons dps
    cases dpAll_nil dps
    cases dp_int d4
    refine u_cut ⟨fun σ' H' => ∃ pp, σ' = [some (.ref pl), some (.ref pa), some (.ref nd), some (.ref hdd), some (.bl looked), some (.ref pp), some (.int (num lab + 1))] ∧ Ex H H' ∧ SqT K H' pp ([] ++ [.int (num j)]), ?_, fun σ' H' ⟨pp, z1, z2, z3⟩ => by rw [z1]; exact second H' pp _ (.go (num j)) z2 z3 (.cons (.int _) .nil) rfl rfl (by show ("go" : Str) ≠ "call"; decide)⟩
    refine u_if (tst _ fun H' e' h' => u_true (u_asg (jump H' [] j _ e' rfl (by show 0 ≤ 10; decide) (n3 _ rfl) fun p H2 e2 s2 => ⟨p, rfl, e2, s2⟩)))
  · subst ea
    obtain ⟨v1, r, rfl, d1, dps⟩ := dpAll_cons dps
    obtain ⟨v2, r, rfl, d2, dps⟩ := dpAll_cons dps
    obtain ⟨v3, r, rfl, d3, dps⟩ := dpAll_cons dps
    cases dpAll_nil dps
    cases dp_str d1
    cases dp_str d2
    refine u_cut ⟨fun σ' H' => σ' = [some (.ref pl), some (.ref pa), some (.ref nd), some (.ref hdd), some (.bl looked), some (.ref p1), some (.int (num lab + 1))] ∧ Ex H H', u_if (tst _ fun H' e' h' => u_false (u_next ⟨rfl, e'⟩)), fun σ' H' z => ?_⟩
    obtain ⟨rfl, e'⟩ := z
    refine u_cut ⟨fun σ' H' => ∃ pp, σ' = [some (.ref pl), some (.ref pa), some (.ref nd), some (.ref hdd), some (.bl looked), some (.ref pp), some (.int (num lab + 1))] ∧ Ex H H' ∧ SqT K H' pp [.str x, .int (hdn f), v3], ?_, fun σ' H' ⟨pp, z1, z2, z3⟩ => by rw [z1]; exact fin H' pp _ (.call x (hdn f) gs) z2 z3 (.cons (.str _) (.cons (.int _) (.cons (dp_ex z2 _ d3) .nil))) rfl rfl⟩
    refine a_if (pt_test (pv_eqS (pv_op (pv_var (v := .ref pa) rfl) pv_c (pr_ixt (ex_t e' hpa) (atI_zero _ _))) pv_c)) (fun _ => ?_) fun hb => absurd (of_decide_eq_false hb) (fun z => z rfl)
    have dgh : DGet H' hdd (.str f) (some (.int (hdn f))) := by
      have := DGet.k (k := Sum.inr f) (e' _ _ hhd)
      rw [n4 _ _ _ rfl] at this
      exact this
    refine a_asgT (pa_cons (pv_op (pv_var (v := .ref pa) rfl) pv_c (pr_ixt (ex_t e' hpa) rfl)) (pa_cons (pv_get (pv_var (v := .ref hdd) rfl) (pv_op (pv_var (v := .ref pa) rfl) pv_c (pr_ixt (ex_t e' hpa) rfl)) dgh) (pa_cons (pv_op (pv_var (v := .ref pa) rfl) pv_c (pr_ixt (ex_t e' hpa) rfl)) pa_nil))) (by show 3 ≤ 100000; decide) fun p5 hp5 => ?_
    exact ⟨p5, rfl, e'.trans (Ex.new hp5), st_of upd_same⟩
  · refine u_cut ⟨fun σ' H' => σ' = [some (.ref pl), some (.ref pa), some (.ref nd), some (.ref hdd), some (.bl looked), some (.ref p1), some (.int (num lab + 1))] ∧ Ex H H' ∧ H' p1 = some (.tup ps), u_if (tst _ fun H' e' h' => by rw [hin]; exact u_false (u_next ⟨rfl, e', h'⟩)), fun σ' H' z => ?_⟩
    obtain ⟨rfl, e', h'⟩ := z
    refine second H' p1 ps b e' (st_of h') ?_ (by rw [ea]; rfl) er.symm hc
    rw [ea] at dps
    exact dpAll_ex e' _ dps
end
end B72


set_option Elab.async false
set_option linter.all false
set_option maxRecDepth 100000
set_option maxHeartbeats 400000
/-! C16: what compiled is to tell, as a plain function. -/
namespace B72
open PySem L2 Evl R72 PyProof.Rows
def placesD (d : Df) : List (Str × Int) := d.steps.map fun s => (d.h.name, s.1)
def places (ds : List Df) : List (Str × Int) := ds.flatMap placesD
/-- the place's number: heads go ahead -/
def idx {α : Type} [DecidableEq α] (x : α) : List α → Nat
  | [] => 0
  | y :: ys => if x = y then 0 else idx x ys + 1
def numOf (ds : List Df) (pl : Str × Int) : Int := 1 + (ds.length : Int) + (idx pl (places ds) : Int)
def headNo (ds : List Df) (f : Str) : Int := 1 + (idx f (ds.map (·.h.name)) : Int)
def firstOf (ds : List Df) (d : Df) : Int := numOf ds (d.h.name, (d.steps.head?.map (·.1)).getD 0)
def rowOf (ds : List Df) (lk : Str × Int → Bool) (d : Df) (s : Int × PA) : Row := ⟨rowAct (fun j => numOf ds (d.h.name, j)) (headNo ds) s.2, (d.h.name, s.1), (getA whys s.2.kind).isSome && lk (d.h.name, s.1), numOf ds (d.h.name, s.1) + 1⟩
noncomputable def comp (W : Int) (ds : List Df) (lk : Str × Int → Bool) : List CR :=
  CR.st W (headNo ds "main") :: (ds.map (fun d => CR.hd (hdOf d (firstOf ds d))) ++ ds.flatMap fun d => d.steps.map fun s => CR.rw (rowOf ds lk d s))
section
variable {α : Type} [DecidableEq α]
theorem idx_lt {x : α} : ∀ {l : List α}, x ∈ l → idx x l < l.length ∧ l[idx x l]? = some x
  | y :: ys, h => by
    unfold idx
    by_cases q : x = y
    · rw [if_pos q]
      exact ⟨Nat.succ_pos _, by rw [q]; rfl⟩
    · rw [if_neg q]
      have hx : x ∈ ys := (List.mem_cons.mp h).resolve_left q
      obtain ⟨a, b⟩ := idx_lt hx
      exact ⟨by rw [List.length_cons]; omega, by simpa using b⟩
theorem idx_at {x : α} : ∀ {l : List α} {i : Nat}, l.Nodup → l[i]? = some x → idx x l = i
  | [], i, _, h => by simp at h
  | y :: ys, 0, _, h => by
    have : y = x := by simpa using h
    unfold idx
    rw [if_pos this.symm]
  | y :: ys, i + 1, nd, h => by
    have h : ys[i]? = some x := by simpa using h
    have n := List.nodup_cons.mp nd
    have ne : x ≠ y := fun e => n.1 (e ▸ List.mem_of_getElem? h)
    unfold idx
    rw [if_neg ne, idx_at n.2 h]
end
/-- numbers as they are put into the dict -/
def numbered {α : Type} (b : Int) : List α → List (α × Int)
  | [] => []
  | p :: ps => (p, b) :: numbered (b + 1) ps
theorem numbered_app {α : Type} (b : Int) (xs ys : List α) : numbered b (xs ++ ys) = numbered b xs ++ numbered (b + xs.length) ys := by
  induction xs generalizing b with
  | nil => show numbered b ys = numbered (b + 0) ys; rw [Int.add_zero]
  | cons x xs ih =>
    show (x, b) :: numbered (b + 1) (xs ++ ys) = (x, b) :: (numbered (b + 1) xs ++ numbered (b + ((xs.length + 1 : Nat) : Int)) ys)
    rw [ih]
    have : b + 1 + (xs.length : Int) = b + ((xs.length + 1 : Nat) : Int) := by omega
    rw [this]
theorem numbered_keys {α : Type} (b : Int) (xs : List α) : keysA (numbered b xs) = xs := by
  induction xs generalizing b with
  | nil => rfl
  | cons x xs ih =>
    show x :: keysA (numbered (b + 1) xs) = x :: xs
    rw [ih]
theorem numbered_get {α : Type} [DecidableEq α] (b : Int) (xs : List α) (p : α) (h : p ∈ xs) : getA (numbered b xs) p = some (b + (idx p xs : Int)) := by
  induction xs generalizing b with
  | nil => cases h
  | cons x xs ih =>
    unfold getA numbered idx
    by_cases q : p = x
    · subst q
      simp
    · have q2 : ¬ x = p := fun z => q z.symm
      rw [List.find?_cons, decide_eq_false q2, if_neg q]
      have := ih (b + 1) ((List.mem_cons.mp h).resolve_left q)
      unfold getA at this
      show Option.map _ _ = _
      rw [this]
      congr 1
      show b + 1 + _ = _
      omega
theorem numbered_len {α : Type} (b : Int) (xs : List α) : (numbered b xs).length = xs.length := by
  have := congrArg List.length (numbered_keys b xs)
  unfold keysA at this
  rw [List.length_map] at this
  exact this
end B72


set_option Elab.async false
set_option linter.all false
set_option maxRecDepth 100000
set_option maxHeartbeats 400000
/-! C17: the dicts that compiled makes. -/
namespace B72
open PySem L2 Evl R72 PyProof.Rows
def kP (p : Str × Int) : List Key := [.inr p.1, .inl p.2]
def kvP (e : (Str × Int) × Int) : List Key × V := (kP e.1, .int e.2)
theorem kP_inj (a b : Str × Int) (h : kP a = kP b) : a = b := by
  unfold kP at h
  simp only [List.cons.injEq, Sum.inr.injEq, Sum.inl.injEq, and_true] at h
  exact Prod.ext h.1 h.2
section
variable {κ κ' α : Type} [DecidableEq κ] [DecidableEq κ'] {f : κ → κ'} {g : α → V}
theorem valV_mapG (hf : ∀ a b, f a = f b → a = b) (es : List (κ × α)) (k : κ) : valV (es.map fun e => (f e.1, g e.2)) (f k) = (getA es k).map g := by
  induction es with
  | nil => rfl
  | cons e es ih =>
    unfold valV getA at *
    by_cases h : e.1 = k
    · subst h
      simp
    · have h2 : ¬ f e.1 = f k := fun q => h (hf _ _ q)
      simp only [List.map_cons, List.find?_cons, decide_eq_false h, decide_eq_false h2]
      exact ih
/-- a new key goes behind the others -/
theorem putK_new (hf : ∀ a b, f a = f b → a = b) (es : List (κ × α)) (k : κ) (v : V) (h : k ∉ keysA es) : putK (es.map fun e => (f e.1, g e.2)) (f k) v = (es.map fun e => (f e.1, g e.2)) ++ [(f k, v)] := by
  unfold putK
  have e : ((es.map fun e => (f e.1, g e.2)).any fun kv => decide (kv.1 = f k)) = false := by
    rw [List.any_eq_false]
    intro x hx
    obtain ⟨y, hy, rfl⟩ := List.mem_map.mp hx
    simp only [decide_eq_true_eq]
    intro q
    exact h (by rw [← hf _ _ q]; exact List.mem_map_of_mem (f := (·.1)) hy)
  rw [e]
  rfl
theorem mergeX_new (hf : ∀ a b, f a = f b → a = b) (b : List (κ × α)) : ∀ a : List (κ × α), (keysA (a ++ b)).Nodup → mergeX (a.map fun e => (f e.1, g e.2)) (b.map fun e => (f e.1, g e.2)) = (a ++ b).map fun e => (f e.1, g e.2) := by
  induction b with
  | nil => intro a _; rw [List.append_nil]; rfl
  | cons q b ih =>
    intro a nd
    have hq : q.1 ∉ keysA a := by
      unfold keysA at nd ⊢
      rw [List.map_append, List.map_cons] at nd
      have := (List.nodup_append.mp nd).2.2
      exact fun z => this _ z _ (List.mem_cons_self ..) rfl
    show mergeX (putK (a.map fun e => (f e.1, g e.2)) (f q.1) (g q.2)) (b.map fun e => (f e.1, g e.2)) = _
    rw [putK_new hf a q.1 (g q.2) hq]
    have e2 : (a.map fun e => (f e.1, g e.2)) ++ [(f q.1, g q.2)] = (a ++ [q]).map fun e => (f e.1, g e.2) := by simp
    rw [e2, ih (a ++ [q]) (by rw [List.append_assoc]; exact nd), List.append_assoc]
    rfl
end
section
variable {K : PySem.W.Frag} {w : World} {H H' : Hp} {D : Ends} {σ : L2.St} {Q : VK}
theorem u_enum {ta : TA} {R : It → Hp → Prop} (k : ta σ H fun vs H1 => ∃ a xs, vs = [.ref a] ∧ ((SqL K H1 a xs ∧ R (Ite K a) H1) ∨ (SqT K H1 a xs ∧ R (IteT K a) H1))) : iEnumX K ta σ H R := k
theorem u_dcI {wi : TI} {g : TG} {tt : TT} {tk tv : TE} {vs : List Nat} (k : wi σ H fun J H1 => ∀ D, H1 D = none → ∃ W : Nat → Nat → Hp → Prop, (∃ m, W 0 m (upd H1 D (.dK []))) ∧ ∀ i m H, W i m H →
  (J.stop i H ∧ Q (.ref D) H) ∨ (J.go i H ∧ ∃ Nx : Hp → Prop, (∀ H', Nx H' → ∃ m', m' < m ∧ W (i + 1) m' H') ∧ ∀ x H', J.yld i H x H' → g x (wipe σ vs) H' fun σ2 H2 => wipe σ2 vs = wipe σ vs ∧ tt σ2 H2 fun b H3 =>
    if b = true then tk σ2 H3 fun y H4 => tv σ2 H4 fun z H5 => ∃ kvs k, y = kV k ∧ H5 D = some (.dK kvs) ∧ kvs.length < sizeLine ∧ Nx (upd H5 D (.dK (putK kvs k z))) else Nx H3)) : tDc wi g tt tk tv vs σ H Q := k
theorem u_dcTI {wi : TI} {g : TG} {tt : TT} {tk tv : TE} {vs : List Nat} (k : wi σ H fun J H1 => ∀ D, H1 D = none → ∃ W : Nat → Nat → Hp → Prop, (∃ m, W 0 m (upd H1 D (.dT []))) ∧ ∀ i m H, W i m H →
  (J.stop i H ∧ Q (.ref D) H) ∨ (J.go i H ∧ ∃ Nx : Hp → Prop, (∀ H', Nx H' → ∃ m', m' < m ∧ W (i + 1) m' H') ∧ ∀ x H', J.yld i H x H' → g x (wipe σ vs) H' fun σ2 H2 => wipe σ2 vs = wipe σ vs ∧ tt σ2 H2 fun b H3 =>
    if b = true then tk σ2 H3 fun y H4 => tv σ2 H4 fun z H5 => ∃ kvs k b, y = .ref b ∧ H5 b = some (.tup (k.map kV)) ∧ H5 D = some (.dT kvs) ∧ kvs.length < sizeLine ∧ Nx (upd H5 D (.dT (putK kvs k z))) else Nx H3)) : tDcT wi g tt tk tv vs σ H Q := k
/-- what a comprehension walks a tuple's pairs by -/
theorem enum_walk {a : Addr} {xs : List V} {P : Nat → Hp → Prop} {Qd : Hp → Prop} {H1 : Hp} {B : (Hp → Prop) → V → Hp → Prop} (h0 : P 0 H1) (hl : ∀ i H, P i H → SqT K H a xs)
    (hs : ∀ i x T H, xs[i]? = some x → P i H → H T = none → B (P (i + 1)) (.ref T) (upd H T (.tup [.int i, x]))) (hd : ∀ H, P xs.length H → Qd H) :
    ∃ W : Nat → Nat → Hp → Prop, (∃ m, W 0 m H1) ∧ ∀ i m H, W i m H →
      ((IteT K a).stop i H ∧ Qd H) ∨ ((IteT K a).go i H ∧ ∃ Nx : Hp → Prop, (∀ H', Nx H' → ∃ m', m' < m ∧ W (i + 1) m' H') ∧ ∀ x H', (IteT K a).yld i H x H' → B Nx x H') := by
  refine ⟨fun i m H => m = xs.length - i ∧ i ≤ xs.length ∧ P i H, ⟨xs.length, rfl, Nat.zero_le _, h0⟩, ?_⟩
  rintro i m H ⟨rfl, hi, p⟩
  have hx := hl i H p
  by_cases hlt : i < xs.length
  · refine .inr ⟨⟨xs, xs[i], hx, List.getElem?_eq_getElem hlt⟩, P (i + 1), fun H' q => ⟨xs.length - (i + 1), by omega, rfl, hlt, q⟩, ?_⟩
    rintro x H' ⟨T, y, rfl, hT, rfl, hy⟩
    exact hs i y T H (hy _ hx) p hT
  · have : i = xs.length := by omega
    subst this
    exact .inl ⟨⟨xs, hx, Nat.le_refl _⟩, hd H p⟩
end
end B72


set_option Elab.async false
set_option linter.all false
set_option maxRecDepth 100000
set_option maxHeartbeats 400000
/-! C18: what holds of a drawn program. -/
namespace B72
open PySem L2 Evl R72 PyProof.Rows
section
variable {W : Int} {ds : List Df}
theorem names_nodup (ok : ProgOk W ds) : (ds.map (·.h.name)).Nodup ∧ ∀ d ∈ ds, d.h.name ∈ ([("main" : Str), "f", "g"] : List Str) := by
  obtain ⟨hs, h1, h2, h3, h4, h5⟩ := ok.hs
  have hn : (hs.map (·.name)).Nodup ∧ ∀ h ∈ hs, h.name ∈ ([("main" : Str), "f", "g"] : List Str) := by
    have all : (["main", "f", "g"] : List Str).Nodup := by decide
    refine ⟨?_, fun h hh => ?_⟩
    · have e : hs.map (·.name) = (["main", "f", "g"] : List Str).take hs.length := by
        apply List.ext_getElem?
        intro i
        rw [List.getElem?_map, List.getElem?_take]
        by_cases q : i < hs.length
        · rw [if_pos q, List.getElem?_eq_getElem q, (h3 i hs[i] (List.getElem?_eq_getElem q)).name]; rfl
        · rw [if_neg q, List.getElem?_eq_none (by omega)]; rfl
      rw [e]
      exact (List.take_sublist _ _).nodup all
    · obtain ⟨i, hi⟩ := List.mem_iff_getElem?.mp hh
      exact List.mem_of_getElem? (h3 i h hi).name
  have e : ds.map (·.h.name) = (ds.map (·.h)).map (·.name) := by rw [List.map_map]; rfl
  rw [e]
  rcases h4 with z | z
  · rw [z]
    refine ⟨hn.1, fun d hd => hn.2 _ ?_⟩
    rw [← z]; exact List.mem_map_of_mem (f := (·.h)) hd
  · rw [z, List.map_reverse]
    refine ⟨(List.reverse_perm _).nodup_iff.mpr hn.1, fun d hd => hn.2 _ ?_⟩
    have : d.h ∈ ds.map (·.h) := List.mem_map_of_mem (f := (·.h)) hd
    rw [z] at this
    exact List.mem_reverse.mp this
theorem ds_len (ok : ProgOk W ds) : 1 ≤ ds.length ∧ ds.length ≤ 3 := by
  obtain ⟨hs, h1, h2, h3, h4, h5⟩ := ok.hs
  have hp := List.length_pos_iff.mpr h1
  have e : ds.length = hs.length := by
    rcases h4 with z | z
    · have := congrArg List.length z; simpa using this
    · have := congrArg List.length z; simpa using this
  omega
theorem steps_ok (ok : ProgOk W ds) {d : Df} (hd : d ∈ ds) : ∃ hs j, HrOk j d.h ∧ StepsOk W d.h hs d.steps ∧ ∀ o ∈ hs, ∃ d' ∈ ds, d'.h = o := by
  obtain ⟨hs, h1, h2, h3, h4, h5⟩ := ok.hs
  have hm : d.h ∈ hs := by
    have : d.h ∈ ds.map (·.h) := List.mem_map_of_mem (f := (·.h)) hd
    rcases h4 with z | z
    · rw [z] at this; exact this
    · rw [z] at this; exact List.mem_reverse.mp this
  obtain ⟨j, hj⟩ := List.mem_iff_getElem?.mp hm
  refine ⟨hs, j, h3 j _ hj, h5 d hd, fun o ho => ?_⟩
  have : o ∈ ds.map (·.h) := by
    rcases h4 with z | z
    · rw [z]; exact ho
    · rw [z]; exact List.mem_reverse.mpr ho
  obtain ⟨d', hd', e⟩ := List.mem_map.mp this
  exact ⟨d', hd', e⟩
theorem main_in (ok : ProgOk W ds) : ("main" : Str) ∈ ds.map (·.h.name) := by
  obtain ⟨hs, h1, h2, h3, h4, h5⟩ := ok.hs
  obtain ⟨h, r, e⟩ := List.exists_cons_of_ne_nil h1
  have q := (h3 0 h (by rw [e]; rfl)).name
  have q : h.name = "main" := by simpa using q.symm
  have hm : h ∈ ds.map (·.h) := by
    rcases h4 with z | z
    · rw [z, e]; exact List.mem_cons_self ..
    · rw [z]; exact List.mem_reverse.mpr (by rw [e]; exact List.mem_cons_self ..)
  obtain ⟨d, hd, e2⟩ := List.mem_map.mp hm
  exact List.mem_map.mpr ⟨d, hd, by rw [e2, q]⟩
theorem places_nodup (ok : ProgOk W ds) : (places ds).Nodup := by
  have key : ∀ l : List Df, (∀ d ∈ l, d ∈ ds) → (l.map (·.h.name)).Nodup → (places l).Nodup := by
    intro l
    induction l with
    | nil => intro _ _; exact List.nodup_nil
    | cons d l ih =>
      intro hl nd
      have n := List.nodup_cons.mp nd
      show (placesD d ++ places l).Nodup
      refine List.nodup_append.mpr ⟨?_, ih (fun x hx => hl x (List.mem_cons_of_mem _ hx)) n.2, fun a ha b hb => ?_⟩
      · obtain ⟨hs, j, _, so, _⟩ := steps_ok ok (hl d (List.mem_cons_self ..))
        have up := so.up
        unfold placesD
        rw [List.pairwise_map] at up
        unfold List.Nodup
        rw [List.pairwise_map]
        exact up.imp fun {a b} h e => by
          have := (Prod.mk.inj e).2
          omega
      · unfold placesD at ha
        obtain ⟨s, _, rfl⟩ := List.mem_map.mp ha
        unfold places at hb
        obtain ⟨d', hd', hb'⟩ := List.mem_flatMap.mp hb
        unfold placesD at hb'
        obtain ⟨s', _, rfl⟩ := List.mem_map.mp hb'
        intro e
        exact n.1 (by
          have := (Prod.mk.inj e).1
          show d.h.name ∈ l.map (·.h.name)
          rw [this]
          exact List.mem_map_of_mem (f := (·.h.name)) hd')
  exact key ds (fun _ h => h) (names_nodup ok).1
theorem num_U {h : Hr} {j : Nat} (o : HrOk j h) {x : Str} (hx : NumIn h x) : x ∈ U7 := by
  rcases List.mem_append.mp hx with z | z
  · exact pl_in o.plain x z
  · exact fi_in o.fingers x z
theorem side_U {h : Hr} {j : Nat} (o : HrOk j h) {wide : Int} {z : Side} (hz : SideW wide h z) : ∀ x ∈ z.names, x ∈ U7 := by
  cases z with
  | inl y => intro x hx; rw [List.mem_singleton.mp hx]; exact num_U o hz
  | inr i => intro x hx; cases hx
theorem side_len (z : Side) : z.names.length ≤ 1 := by
  cases z with
  | inl x => exact Nat.le_refl 1
  | inr i => exact Nat.zero_le 1
theorem act_U {wide : Int} {h : Hr} {hs : List Hr} {J : Int → Prop} {j : Nat} {a : PA} (o : HrOk j h) (ok : ActOk wide h hs J a) : (∀ x ∈ a.names, x ∈ U7) ∧ a.names.length ≤ 50 ∧ a.parts.length ≤ 10 := by
  have n := fun {x} => num_U o (x := x)
  have r := fun {x} => ro_in o.rows x
  cases a with
  | call x f gs =>
    refine ⟨fun y hy => ?_, ?_, by show 3 ≤ 10; decide⟩
    · rcases List.mem_cons.mp hy with z | z
      · rw [z]; exact n ok.1
      · rcases ok.2.2.1 y z with q | q
        · exact n q
        · exact r q
    · have := ok.2.2.2
      show gs.length + 1 ≤ 50
      omega
  | plain a =>
    cases a with
    | call => exact ok.elim
    | sum k x y z =>
      refine ⟨fun q hq => ?_, ?_, by show 3 ≤ 10; decide⟩
      · rcases List.mem_append.mp hq with q1 | q1
        · simp only [List.mem_cons, List.mem_nil_iff, or_false] at q1
          rcases q1 with e | e <;> rw [e]
          · exact n ok.2.1
          · exact n ok.2.2.1
        · exact side_U o ok.2.2.2.1 q q1
      · have := side_len z
        show ([x, y] ++ z.names).length ≤ 50
        rw [List.length_append]
        simp only [List.length_cons, List.length_nil]
        omega
    | chk a g b =>
      refine ⟨fun q hq => ?_, ?_, by show 3 ≤ 10; decide⟩
      · rcases List.mem_append.mp hq with q1 | q1
        · exact side_U o ok.1 q q1
        · exact side_U o ok.2.2 q q1
      · have := side_len a
        have := side_len b
        show (a.names ++ b.names).length ≤ 50
        rw [List.length_append]
        omega
    | iff a g b j =>
      refine ⟨fun q hq => ?_, ?_, by show 4 ≤ 10; decide⟩
      · rcases List.mem_append.mp hq with q1 | q1
        · exact side_U o ok.1 q q1
        · exact side_U o ok.2.2.1 q q1
      · have := side_len a
        have := side_len b
        show (a.names ++ b.names).length ≤ 50
        rw [List.length_append]
        omega
    | set x m => exact ⟨fun q hq => by rw [List.mem_singleton.mp hq]; exact n ok.1, by show 1 ≤ 50; decide, by show 2 ≤ 10; decide⟩
    | over k x y z =>
      refine ⟨fun q hq => ?_, by show 3 ≤ 50; decide, by show 3 ≤ 10; decide⟩
      simp only [PA.names, List.mem_cons, List.mem_nil_iff, or_false] at hq
      rcases hq with e | e | e <;> rw [e]
      · exact n ok.2.1
      · exact n ok.2.2.1
      · exact n ok.2.2.2
    | mid x y z =>
      refine ⟨fun q hq => ?_, by show 3 ≤ 50; decide, by show 3 ≤ 10; decide⟩
      simp only [PA.names, List.mem_cons, List.mem_nil_iff, or_false] at hq
      rcases hq with e | e | e <;> rw [e]
      · exact n ok.1
      · exact n ok.2.1
      · exact n ok.2.2
    | row a x =>
      refine ⟨fun q hq => ?_, by show 2 ≤ 50; decide, by show 2 ≤ 10; decide⟩
      simp only [PA.names, List.mem_cons, List.mem_nil_iff, or_false] at hq
      rcases hq with e | e <;> rw [e]
      · exact r ok.1
      · exact n ok.2
    | get x a p =>
      refine ⟨fun q hq => ?_, by show 3 ≤ 50; decide, by show 3 ≤ 10; decide⟩
      simp only [PA.names, List.mem_cons, List.mem_nil_iff, or_false] at hq
      rcases hq with e | e | e <;> rw [e]
      · exact n ok.1
      · exact r ok.2.1
      · exact n ok.2.2
    | put a p x =>
      refine ⟨fun q hq => ?_, by show 3 ≤ 50; decide, by show 3 ≤ 10; decide⟩
      simp only [PA.names, List.mem_cons, List.mem_nil_iff, or_false] at hq
      rcases hq with e | e | e <;> rw [e]
      · exact r ok.1
      · exact n ok.2.1
      · exact n ok.2.2
    | len x a =>
      refine ⟨fun q hq => ?_, by show 2 ≤ 50; decide, by show 2 ≤ 10; decide⟩
      simp only [PA.names, List.mem_cons, List.mem_nil_iff, or_false] at hq
      rcases hq with e | e <;> rw [e]
      · exact n ok.1
      · exact r ok.2
    | ask x l g => exact ⟨fun q hq => by rw [List.mem_singleton.mp hq]; exact n ok.1, by show 1 ≤ 50; decide, by show 3 ≤ 10; decide⟩
    | tell x => exact ⟨fun q hq => by rw [List.mem_singleton.mp hq]; exact n ok, by show 1 ≤ 50; decide, by show 1 ≤ 10; decide⟩
    | go j => exact ⟨(fun q hq => (by cases hq)), by show 0 ≤ 50; decide, by show 1 ≤ 10; decide⟩
    | back x => exact ⟨fun q hq => by rw [List.mem_singleton.mp hq]; exact n ok, by show 1 ≤ 50; decide, by show 1 ≤ 10; decide⟩
theorem df_ok (ok : ProgOk W ds) {d : Df} (hd : d ∈ ds) : DfOk d := by
  obtain ⟨hs, j, o, so, _⟩ := steps_ok ok hd
  have b1 : ∀ l ∈ plains, 1 ≤ l.length ∧ l.length ≤ 3 := by decide
  have b2 : ∀ l ∈ fingersL, l.length ≤ 2 := by decide
  have b3 : ∀ l ∈ rowsL, l.length ≤ 2 := by decide
  refine ⟨fun s hs' => ?_, fun x hx => ?_, ⟨by have := o.plen; omega, by have := b2 _ o.fingers; omega, by have := b3 _ o.rows; omega⟩, by have := so.len; omega⟩
  · obtain ⟨a, b⟩ := act_spec (so.act s hs')
    obtain ⟨c, d1, e⟩ := act_U o (so.act s hs')
    rw [b]
    exact ⟨a, d1, e, c⟩
  · have pin : ∀ x ∈ d.h.params, x ∈ U7 := fun x hx => by
      have := o.pin x hx
      simp only [List.mem_append] at this
      rcases this with (z | z) | z
      · exact pl_in o.plain x z
      · exact fi_in o.fingers x z
      · exact ro_in o.rows x z
    simp only [List.mem_append] at hx
    rcases hx with (z | z) | z
    · exact pin x z
    · exact fi_in o.fingers x z
    · exact ro_in o.rows x z
end
end B72


set_option Elab.async false
set_option linter.all false
set_option maxRecDepth 100000
set_option maxHeartbeats 400000
/-! C19: the rows told by comp are fit to run. -/
namespace B72
open PySem L2 Evl R72 PyProof.Rows
def flatS (ds : List Df) : List (Df × (Int × PA)) := ds.flatMap fun d => d.steps.map fun s => (d, s)
theorem places_flat (ds : List Df) : places ds = (flatS ds).map fun q => (q.1.h.name, q.2.1) := by
  unfold places flatS
  rw [List.map_flatMap]
  congr 1
  funext d
  unfold placesD
  rw [List.map_map]; rfl
theorem flat_split : ∀ (ds : List Df) (k : Nat) (q : Df × (Int × PA)), (flatS ds)[k]? = some q → ∃ l1 d l2 j s, ds = l1 ++ d :: l2 ∧ k = (flatS l1).length + j ∧ d.steps[j]? = some s ∧ q = (d, s)
  | [], k, q, h => by simp [flatS] at h
  | d :: ds, k, q, h => by
    have e : flatS (d :: ds) = (d.steps.map fun s => (d, s)) ++ flatS ds := rfl
    rw [e] at h
    by_cases hk : k < d.steps.length
    · rw [List.getElem?_append_left (by rw [List.length_map]; exact hk), List.getElem?_map] at h
      obtain ⟨s, hs, rfl⟩ := Option.map_eq_some_iff.mp h
      exact ⟨[], d, ds, k, s, rfl, by simp [flatS], hs, rfl⟩
    · rw [List.getElem?_append_right (by rw [List.length_map]; omega), List.length_map] at h
      obtain ⟨l1, d', l2, j, s, h1, h2, h3, h4⟩ := flat_split ds _ q h
      refine ⟨d :: l1, d', l2, j, s, by rw [h1]; rfl, ?_, h3, h4⟩
      have e2 : flatS (d :: l1) = (d.steps.map fun s => (d, s)) ++ flatS l1 := rfl
      rw [e2, List.length_append, List.length_map]
      omega
theorem flat_at {l1 l2 : List Df} {d : Df} {j : Nat} {s : Int × PA} (h : d.steps[j]? = some s) : (flatS (l1 ++ d :: l2))[(flatS l1).length + j]? = some (d, s) := by
  have e : flatS (l1 ++ d :: l2) = flatS l1 ++ ((d.steps.map fun s => (d, s)) ++ flatS l2) := by
    unfold flatS
    rw [List.flatMap_append]; rfl
  have hj := (List.getElem?_eq_some_iff.mp h).1
  rw [e, List.getElem?_append_right (by omega), Nat.add_sub_cancel_left, List.getElem?_append_left (by rw [List.length_map]; exact hj), List.getElem?_map, h]
  rfl
section
variable {W : Int} {ds : List Df}
theorem num_at (ok : ProgOk W ds) {l1 l2 : List Df} {d : Df} {j : Nat} {s : Int × PA} (e : ds = l1 ++ d :: l2) (h : d.steps[j]? = some s) : numOf ds (d.h.name, s.1) = 1 + (ds.length : Int) + (((flatS l1).length + j : Nat) : Int) := by
  unfold numOf
  have hp : (places ds)[(flatS l1).length + j]? = some (d.h.name, s.1) := by
    rw [places_flat, List.getElem?_map, e, flat_at h]; rfl
  rw [idx_at (places_nodup ok) hp]
/-- which head a row's number goes under -/
noncomputable def tyOf (ds : List Df) (i : Int) : Option Hd := if i < 1 + (ds.length : Int) then none else ((flatS ds)[(i - 1 - (ds.length : Int)).toNat]?).map fun q => hdOf q.1 (firstOf ds q.1)
theorem comp_row (W : Int) (ds : List Df) (lk : Str × Int → Bool) (k : Nat) : (comp W ds lk)[1 + ds.length + k]? = ((flatS ds)[k]?).map fun q => CR.rw (rowOf ds lk q.1 q.2) := by
  unfold comp
  have e : (ds.flatMap fun d => d.steps.map fun s => CR.rw (rowOf ds lk d s)) = (flatS ds).map fun q => CR.rw (rowOf ds lk q.1 q.2) := by
    unfold flatS
    rw [List.map_flatMap]
    congr 1
    funext d
    rw [List.map_map]; rfl
  rw [e]
  have e2 : 1 + ds.length + k = (ds.length + k) + 1 := by omega
  rw [e2, List.getElem?_cons_succ, List.getElem?_append_right (by rw [List.length_map]; omega), List.length_map, Nat.add_sub_cancel_left, List.getElem?_map]
theorem comp_head (W : Int) (ds : List Df) (lk : Str × Int → Bool) {k : Nat} (hk : k < ds.length) : (comp W ds lk)[1 + k]? = some (.hd (hdOf ds[k] (firstOf ds ds[k]))) := by
  unfold comp
  have e2 : 1 + k = k + 1 := by omega
  rw [e2, List.getElem?_cons_succ, List.getElem?_append_left (by rw [List.length_map]; exact hk), List.getElem?_map, List.getElem?_eq_getElem hk]
  rfl
/-- a step's row, found by its number -/
theorem goes_at (ok : ProgOk W ds) (lk : Str × Int → Bool) {l1 l2 : List Df} {d : Df} {j : Nat} {s : Int × PA} (e : ds = l1 ++ d :: l2) (h : d.steps[j]? = some s) : Goes (comp W ds lk) (tyOf ds) (hdOf d (firstOf ds d)) (numOf ds (d.h.name, s.1)) := by
  have hn := num_at ok e h
  have hf : (flatS ds)[(flatS l1).length + j]? = some (d, s) := by rw [e]; exact flat_at h
  refine ⟨by omega, ⟨rowOf ds lk d s, ?_⟩, ?_⟩
  · have et : (numOf ds (d.h.name, s.1)).toNat = 1 + ds.length + ((flatS l1).length + j) := by omega
    rw [et, comp_row, hf]; rfl
  · unfold tyOf
    rw [if_neg (by omega)]
    have et : (numOf ds (d.h.name, s.1) - 1 - (ds.length : Int)).toNat = (flatS l1).length + j := by omega
    rw [et, hf]; rfl
theorem first_at (ok : ProgOk W ds) (lk : Str × Int → Bool) {l1 l2 : List Df} {d : Df} (e : ds = l1 ++ d :: l2) : Goes (comp W ds lk) (tyOf ds) (hdOf d (firstOf ds d)) (firstOf ds d) := by
  obtain ⟨hs, j, o, so, _⟩ := steps_ok ok (d := d) (by rw [e]; simp)
  obtain ⟨s, r, hs⟩ := List.exists_cons_of_ne_nil so.ne
  have h0 : d.steps[0]? = some s := by rw [hs]; rfl
  have q := goes_at ok lk e h0
  have ef : firstOf ds d = numOf ds (d.h.name, s.1) := by unfold firstOf; rw [hs]; rfl
  rw [ef] at q ⊢
  exact q
theorem num_not_row {h : Hr} {j : Nat} (o : HrOk j h) {x : Str} (hx : NumIn h x) : x ∉ h.rows := by
  have a : ∀ l ∈ plains, ∀ x ∈ l, ∀ r ∈ rowsL, x ∉ r := by decide
  have b : ∀ l ∈ fingersL, ∀ x ∈ l, ∀ r ∈ rowsL, x ∉ r := by decide
  rcases List.mem_append.mp hx with z | z
  · exact a _ o.plain x z _ o.rows
  · exact b _ o.fingers x z _ o.rows
theorem name_inj (ok : ProgOk W ds) {a b : Df} (ha : a ∈ ds) (hb : b ∈ ds) (e : a.h.name = b.h.name) : a = b := by
  obtain ⟨i, hi⟩ := List.mem_iff_getElem?.mp ha
  obtain ⟨j, hj⟩ := List.mem_iff_getElem?.mp hb
  have nd := (names_nodup ok).1
  have p1 : (ds.map (·.h.name))[i]? = some a.h.name := by rw [List.getElem?_map, hi]; rfl
  have p2 : (ds.map (·.h.name))[j]? = some a.h.name := by rw [List.getElem?_map, hj, e]; rfl
  have q : i = j := (idx_at nd p1).symm.trans (idx_at nd p2)
  subst q
  rw [hi] at hj
  exact Option.some.inj hj
theorem sums_ne {k : Str} (h : k ∈ sumKs) : k ≠ "go" ∧ k ≠ "back" := by
  have : ∀ k ∈ sumKs, k ≠ "go" ∧ k ≠ "back" := by decide
  exact this k h
theorem row_ok (ok : ProgOk W ds) (lk : Str × Int → Bool) {l1 l2 : List Df} {d : Df} {j : Nat} {s : Int × PA} (e : ds = l1 ++ d :: l2) (h : d.steps[j]? = some s) : RowOk (comp W ds lk) (tyOf ds) W (hdOf d (firstOf ds d)) (rowOf ds lk d s) := by
  have hd : d ∈ ds := by rw [e]; simp
  obtain ⟨hs, jj, o, so, ho⟩ := steps_ok ok hd
  have hsm : s ∈ d.steps := List.mem_of_getElem? h
  have oka := so.act s hsm
  obtain ⟨_, an⟩ := act_spec oka
  have nm : ∀ x, NumIn d.h x → x ∈ s.2.names → x ∈ numsOf d := fun x hx hn => (nums_mem x).mpr ⟨(nm_mem x).mpr (.inr ⟨s, hsm, by rw [an]; exact hn⟩), num_not_row o hx⟩
  have next : s.2.kind ≠ "go" → s.2.kind ≠ "back" → Goes (comp W ds lk) (tyOf ds) (hdOf d (firstOf ds d)) (numOf ds (d.h.name, s.1) + 1) := by
    intro n1 n2
    have hj := (List.getElem?_eq_some_iff.mp h).1
    have hj2 : j + 1 < d.steps.length := by
      apply Classical.byContradiction
      intro hc
      have hl : d.steps.getLast? = some s := by
        rw [List.getLast?_eq_getElem?]
        have : d.steps.length - 1 = j := by omega
        rw [this]; exact h
      rcases so.last s hl with z | z
      · exact n1 z
      · exact n2 z
    have h2 : d.steps[j + 1]? = some d.steps[j + 1] := List.getElem?_eq_getElem hj2
    have q := goes_at ok lk e h2
    have a := num_at ok e h
    have b := num_at ok e h2
    have eq : numOf ds (d.h.name, s.1) + 1 = numOf ds (d.h.name, d.steps[j + 1].1) := by omega
    rw [eq]
    exact q
  have jump : ∀ l, l ∈ d.steps.map (·.1) → Goes (comp W ds lk) (tyOf ds) (hdOf d (firstOf ds d)) (numOf ds (d.h.name, l)) := by
    intro l hl
    obtain ⟨s', hs', rfl⟩ := List.mem_map.mp hl
    obtain ⟨j', hj'⟩ := List.mem_iff_getElem?.mp hs'
    exact goes_at ok lk e hj'
  obtain ⟨lab, a⟩ := s
  have hW := ok.w
  have side : ∀ z : Side, SideW W d.h z → (∀ x ∈ z.names, x ∈ a.names) → SideOk W (hdOf d (firstOf ds d)) z := by
    intro z hz hn
    cases z with
    | inl x => exact nm x hz (hn x (by simp [Side.names]))
    | inr i => exact hz
  unfold RowOk rowOf
  dsimp only at *
  cases a with
  | call x f gs =>
    obtain ⟨q1, ⟨ho1, hm, hf, hl⟩, q3, q4⟩ := oka
    refine ⟨nm x q1 (List.mem_cons_self ..), next (by show ("call" : Str) ≠ "go"; decide) (by show ("call" : Str) ≠ "back"; decide), fun g hg => ?_, ?_, ?_⟩
    · rcases q3 g hg with z | z
      · exact .inl (nm g z (List.mem_cons_of_mem _ hg))
      · exact .inr z
    · unfold headNo; omega
    · obtain ⟨d', hd', e'⟩ := ho ho1 hm
      have hfn : f ∈ ds.map (·.h.name) := List.mem_map.mpr ⟨d', hd', by rw [e', hf]⟩
      obtain ⟨i1, i2⟩ := idx_lt hfn
      rw [List.length_map] at i1
      rw [List.getElem?_map] at i2
      obtain ⟨d2, hd2, en2⟩ := Option.map_eq_some_iff.mp i2
      have hd2' : ds[idx f (ds.map (·.h.name))] = d2 := by
        rw [List.getElem?_eq_getElem i1] at hd2
        exact Option.some.inj hd2
      have hc := comp_head W ds lk i1
      rw [hd2'] at hc
      have en : (headNo ds f).toNat = 1 + idx f (ds.map (·.h.name)) := by unfold headNo; omega
      have hdd : d2 = d' := by
        exact name_inj ok (List.mem_of_getElem? hd2) hd' (by rw [e', hf]; exact en2)
      refine ⟨hdOf d2 (firstOf ds d2), by rw [en]; exact hc, ?_, ?_⟩
      · rw [hdd]
        show d'.h.params.length = gs.length
        rw [e', hl]
      · obtain ⟨l1', l2', el⟩ := List.append_of_mem (List.mem_of_getElem? hd2)
        exact first_at ok lk el
  | plain a =>
    cases a with
    | call => exact oka.elim
    | set x n => exact ⟨nm x oka.1 (by simp [PA.names]), oka.2.1, oka.2.2, next (by show ("set" : Str) ≠ "go"; decide) (by show ("set" : Str) ≠ "back"; decide)⟩
    | sum k x y z => exact ⟨oka.1, nm x oka.2.1 (by simp [PA.names]), nm y oka.2.2.1 (by simp [PA.names]), side z oka.2.2.2.1 (fun q hq => by simp [PA.names, hq]), next (sums_ne oka.1).1 (sums_ne oka.1).2⟩
    | over k x y z =>
      refine ⟨oka.1, nm x oka.2.1 (by simp [PA.names]), nm y oka.2.2.1 (by simp [PA.names]), nm z oka.2.2.2 (by simp [PA.names]), next ?_ ?_⟩
      · show k ≠ "go"
        rcases oka.1 with q | q <;> rw [q] <;> decide
      · show k ≠ "back"
        rcases oka.1 with q | q <;> rw [q] <;> decide
    | mid x y z => exact ⟨nm x oka.1 (by simp [PA.names]), nm y oka.2.1 (by simp [PA.names]), nm z oka.2.2 (by simp [PA.names]), next (by show ("mid" : Str) ≠ "go"; decide) (by show ("mid" : Str) ≠ "back"; decide)⟩
    | row a x => exact ⟨oka.1, nm x oka.2 (by simp [PA.names]), next (by show ("row" : Str) ≠ "go"; decide) (by show ("row" : Str) ≠ "back"; decide)⟩
    | get x a p => exact ⟨nm x oka.1 (by simp [PA.names]), oka.2.1, nm p oka.2.2 (by simp [PA.names]), next (by show ("get" : Str) ≠ "go"; decide) (by show ("get" : Str) ≠ "back"; decide)⟩
    | put a p x => exact ⟨oka.1, nm p oka.2.1 (by simp [PA.names]), nm x oka.2.2 (by simp [PA.names]), next (by show ("put" : Str) ≠ "go"; decide) (by show ("put" : Str) ≠ "back"; decide)⟩
    | len x a => exact ⟨nm x oka.1 (by simp [PA.names]), oka.2, next (by show ("length" : Str) ≠ "go"; decide) (by show ("length" : Str) ≠ "back"; decide)⟩
    | ask x l g => exact ⟨nm x oka.1 (by simp [PA.names]), oka.2.1, oka.2.2.1, oka.2.2.2, next (by show ("ask" : Str) ≠ "go"; decide) (by show ("ask" : Str) ≠ "back"; decide)⟩
    | tell x => exact ⟨nm x oka (by simp [PA.names]), next (by show ("tell" : Str) ≠ "go"; decide) (by show ("tell" : Str) ≠ "back"; decide)⟩
    | chk a g b => exact ⟨side a oka.1 (fun q hq => by simp [PA.names, hq]), side b oka.2.2 (fun q hq => by simp [PA.names, hq]), next (by show ("check" : Str) ≠ "go"; decide) (by show ("check" : Str) ≠ "back"; decide)⟩
    | iff a g b l => exact ⟨side a oka.1 (fun q hq => by simp [PA.names, hq]), side b oka.2.2.1 (fun q hq => by simp [PA.names, hq]), next (by show ("if" : Str) ≠ "go"; decide) (by show ("if" : Str) ≠ "back"; decide), jump l oka.2.2.2⟩
    | go l => exact jump l oka
    | back x => exact nm x oka (by simp [PA.names])
theorem comp_len (W : Int) (ds : List Df) (lk : Str × Int → Bool) : (comp W ds lk).length = 1 + ds.length + (flatS ds).length := by
  unfold comp
  have e : (ds.flatMap fun d => d.steps.map fun s => CR.rw (rowOf ds lk d s)) = (flatS ds).map fun q => CR.rw (rowOf ds lk q.1 q.2) := by
    unfold flatS
    rw [List.map_flatMap]
    congr 1
    funext d
    rw [List.map_map]; rfl
  rw [e, List.length_cons, List.length_append, List.length_map, List.length_map]
  omega
theorem flat_len (ok : ProgOk W ds) : (flatS ds).length ≤ 60 := by
  have key : ∀ l : List Df, (∀ d ∈ l, d ∈ ds) → (flatS l).length ≤ 20 * l.length := by
    intro l
    induction l with
    | nil => intro _; exact Nat.le_refl _
    | cons d l ih =>
      intro hl
      have e : flatS (d :: l) = (d.steps.map fun s => (d, s)) ++ flatS l := rfl
      obtain ⟨hs, j, _, so, _⟩ := steps_ok ok (hl d (List.mem_cons_self ..))
      have a := so.len
      have b := ih fun x hx => hl x (List.mem_cons_of_mem _ hx)
      rw [e, List.length_append, List.length_map, List.length_cons]
      omega
  have a := key ds fun _ h => h
  have b := ds_len ok
  omega
theorem code_ok (ok : ProgOk W ds) (lk : Str × Int → Bool) : CodeOk (comp W ds lk) (tyOf ds) W := by
  have hl := comp_len W ds lk
  have hf := flat_len ok
  have hd := ds_len ok
  refine ⟨ok.w, by omega, ?_, fun i r hr => ?_, fun i h hh => ?_⟩
  · obtain ⟨i1, i2⟩ := idx_lt (main_in ok)
    rw [List.length_map] at i1
    have en : (headNo ds "main").toNat = 1 + idx ("main" : Str) (ds.map (·.h.name)) := by unfold headNo; omega
    generalize idx ("main" : Str) (ds.map (·.h.name)) = im at i1 i2 en
    have hc := comp_head W ds lk i1
    refine ⟨headNo ds "main", hdOf ds[im] (firstOf ds ds[im]), rfl, by unfold headNo; omega, ?_, ?_⟩
    · rw [en]; exact hc
    · obtain ⟨l1, l2, el⟩ := List.append_of_mem (List.getElem_mem i1)
      exact first_at ok lk el
  · have hi : 1 + ds.length ≤ i := by
      apply Classical.byContradiction
      intro hc
      by_cases h0 : i = 0
      · subst h0
        have : (comp W ds lk)[0]? = some (CR.st W (headNo ds "main")) := rfl
        rw [this] at hr; cases hr
      · have hk : i - 1 < ds.length := by omega
        have q := comp_head W ds lk hk
        have e : 1 + (i - 1) = i := by omega
        rw [e, hr] at q
        cases q
    obtain ⟨k, rfl⟩ : ∃ k, i = 1 + ds.length + k := ⟨i - (1 + ds.length), by omega⟩
    rw [comp_row] at hr
    obtain ⟨q, hq, er⟩ := Option.map_eq_some_iff.mp hr
    have er := CR.rw.inj er
    subst er
    obtain ⟨l1, d, l2, j, s, e1, e2, e3, e4⟩ := flat_split ds k q hq
    subst e4
    have hn := num_at ok e1 e3
    refine ⟨by show numOf ds (d.h.name, s.1) + 1 = _; omega, fun hlk => ?_, hdOf d (firstOf ds d), ?_, row_ok ok lk e1 e3⟩
    · have hlk : ((getA whys s.2.kind).isSome && lk (d.h.name, s.1)) = true := hlk
      have a := (Bool.and_eq_true_iff.mp hlk).1
      obtain ⟨y, hy⟩ := Option.isSome_iff_exists.mp a
      refine ⟨y, ?_⟩
      have ek : (rowAct (fun j => numOf ds (d.h.name, j)) (headNo ds) s.2).kind = s.2.kind := by
        cases s.2 with
        | call => rfl
        | plain a => cases a <;> rfl
      show getA whys (rowAct (fun j => numOf ds (d.h.name, j)) (headNo ds) s.2).kind = some y
      rw [ek]; exact hy
    · unfold tyOf
      rw [if_neg (by omega)]
      have et : ((((1 + ds.length + k : Nat) : Int)) - 1 - (ds.length : Int)).toNat = k := by omega
      rw [et, hq]; rfl
  · by_cases h0 : i = 0
    · subst h0
      have : (comp W ds lk)[0]? = some (CR.st W (headNo ds "main")) := rfl
      rw [this] at hh; cases hh
    · by_cases hk : i - 1 < ds.length
      · have q := comp_head W ds lk hk
        have e : 1 + (i - 1) = i := by omega
        rw [e, hh] at q
        have q := CR.hd.inj (Option.some.inj q)
        subst q
        have hdm : ds[i - 1] ∈ ds := List.getElem_mem hk
        obtain ⟨hs, j, o, so, _⟩ := steps_ok ok hdm
        have b3 : ∀ l ∈ rowsL, l.length ≤ 2 := by decide
        exact ⟨o.plen, nums_len (df_ok ok hdm), by have := b3 _ o.rows; show ds[i - 1].h.rows.length ≤ 7; omega⟩
      · obtain ⟨k, rfl⟩ : ∃ k, i = 1 + ds.length + k := ⟨i - (1 + ds.length), by omega⟩
        rw [comp_row] at hh
        obtain ⟨q, _, er⟩ := Option.map_eq_some_iff.mp hh
        cases er
end
end B72


set_option Elab.async false
set_option linter.all false
set_option maxRecDepth 100000
set_option maxHeartbeats 400000
/-! C20: places among places; compiled. -/
namespace B72
open PySem L2 Evl R72 PyProof.Rows
theorem eqv_place (a b : Str × Int) : PyData.eqv (placeD a) (placeD b) = decide (a = b) := by
  unfold placeD
  simp only [PyData.eqv, PyData.eqvAll, Bool.and_true]
  rw [Bool.eq_iff_iff, Bool.and_eq_true, beq_iff_eq, beq_iff_eq, decide_eq_true_iff]
  constructor
  · rintro ⟨x, y⟩; exact Prod.ext x y
  · rintro rfl; exact ⟨rfl, rfl⟩
theorem place_lay (a : Str × Int) (h : PyData.strOk a.1 = true) : PyData.canLay0 (placeD a) = true ∧ PyData.depth (placeD a) = 1 := by
  unfold placeD
  simp [PyData.canLay0, PyData.canLayAll0, PyData.depth, PyData.depthAll, h]
theorem shaped_place (a : Str × Int) (h : PyData.strOk a.1 = true) : SeqAt.shaped (placeD a) = true := by
  obtain ⟨x, y⟩ := place_lay a h
  unfold SeqAt.shaped
  rw [x, y]; decide
theorem shaped_places (ps : List (Str × Int)) (h : ∀ p ∈ ps, PyData.strOk p.1 = true) : SeqAt.shaped (.list (ps.map placeD)) = true := by
  have a : PyData.canLayAll0 (ps.map placeD) = true := by
    induction ps with
    | nil => rfl
    | cons p ps ih => simp only [List.map_cons, PyData.canLayAll0, (place_lay p (h p (List.mem_cons_self ..))).1, ih (fun q hq => h q (List.mem_cons_of_mem _ hq)), Bool.and_self]
  have b : PyData.depthAll (ps.map placeD) ≤ 1 := by
    clear a
    induction ps with
    | nil => exact Nat.zero_le _
    | cons p ps ih =>
      have := ih (fun q hq => h q (List.mem_cons_of_mem _ hq))
      simp only [List.map_cons, PyData.depthAll, (place_lay p (h p (List.mem_cons_self ..))).2]
      omega
  have c : PyData.depth (.list (ps.map placeD)) ≤ 64 := by
    simp only [PyData.depth]
    omega
  unfold SeqAt.shaped
  rw [Bool.and_eq_true]
  exact ⟨by simp only [PyData.canLay0]; exact a, decide_eq_true c⟩
theorem any_place (ps : List (Str × Int)) (a : Str × Int) : ((ps.map placeD).any fun z => PyData.eqv z (placeD a)) = decide (a ∈ ps) := by
  induction ps with
  | nil => rfl
  | cons p ps ih =>
    rw [List.map_cons, List.any_cons, ih, eqv_place]
    by_cases q : p = a
    · subst q; simp
    · have q2 : a ≠ p := fun z => q z.symm
      simp [q, q2]
end B72


set_option Elab.async false
set_option linter.all false
set_option maxRecDepth 100000
set_option maxHeartbeats 400000
/-! C21: the dict of heads. -/
namespace B72
open PySem L2 Evl R72 PyProof.Rows
def kvH (e : Str × Int) : Key × V := (.inr e.1, .int e.2)
section
variable {K : PySem.W.Frag} {w : World} {H H' : Hp} {D : Ends} {σ : L2.St} {Q : VK} {ds : List Df}
theorem c_heads {da : Addr} {dvs : List V} {p l : V} (hs : SqT K H da dvs) (hd : DpAll K H dvs (ds.map Df.d)) (hn : (ds.map (·.h.name)).Nodup) (hl : ds.length ≤ 100) {W : V}
    (k : ∀ Dl H', H Dl = none → Ex H H' → H' Dl = some (.dK ((numbered 1 (ds.map (·.h.name))).map kvH)) → Q (.ref Dl) H') :
    tDc (iEnumX K (tCons (tVar 3) tNil)) (gTup K 2 (gCons (gName 12) (gCons (gName 4) gNil))) tYes (tOp (rIx K) (tVar 4) (tC (.int 0))) (tOp (rAddX K) (tC (.int 1)) (tVar 12)) [12, 4]
      [some p, some l, some W, some (.ref da), none, none, none, none, none, none, none, none, none] H Q := by
  have hdl : dvs.length = ds.length := by rw [dpAll_len hd, List.length_map]
  refine u_dcI (u_enum (u_cons (pv_var (v := .ref da) rfl _ (pa_nil _ ⟨da, dvs, rfl, .inr ⟨hs, fun Dl hD => ?_⟩⟩))))
  refine enum_walk (xs := dvs) (P := fun i H' => Ex H H' ∧ H' Dl = some (.dK ((numbered 1 ((ds.map (·.h.name)).take i)).map kvH))) ⟨Ex.new hD, upd_same⟩ (fun i H' q => ex_t q.1 hs) (fun i x T H' hx q hT => ?_) fun H' q => ?_
  · obtain ⟨e, h⟩ := q
    have hi : i < ds.length := by have := (List.getElem?_eq_some_iff.mp hx).1; omega
    obtain ⟨x', hx', dx⟩ := dpAll_get hd (i := i) (d := (ds[i]).d) (by rw [List.getElem?_map, List.getElem?_eq_getElem hi]; rfl)
    rw [hx] at hx'
    cases hx'
    have eT := Ex.new (o := .tup [.int i, x]) hT
    obtain ⟨da', a1, a2, a3, a4, sv, rfl, I⟩ := di_of (dp_ex (e.trans eT) _ dx)
    refine g_n2 (st_of upd_same) ⟨rfl, u_yes ?_⟩
    refine pv_op (pv_var (v := .ref da') rfl) pv_c (pr_ixt I.hd rfl) _ (pv_op pv_c (pv_var (v := .int i) rfl) pr_add _ ?_)
    have h2 := eT _ _ h
    have et : (ds.map (·.h.name)).take (i + 1) = (ds.map (·.h.name)).take i ++ [ds[i].h.name] := by
      rw [List.take_succ, List.getElem?_map, List.getElem?_eq_getElem hi]; rfl
    have hlt : ((ds.map (·.h.name)).take i).length = i := by rw [List.length_take, List.length_map]; omega
    refine ⟨_, .inr ds[i].h.name, rfl, h2, by rw [List.length_map, numbered_len, hlt]; exact sz_lt (by omega), (e.trans eT).mut hD, ?_⟩
    have hnew : ds[i].h.name ∉ keysA (numbered 1 ((ds.map (·.h.name)).take i)) := by
      rw [numbered_keys]
      have nd : ((ds.map (·.h.name)).take (i + 1)).Nodup := (List.take_sublist _ _).nodup hn
      rw [et] at nd
      exact fun z => (List.nodup_append.mp nd).2.2 _ z _ (List.mem_singleton.mpr rfl) rfl
    have ep : putK ((numbered 1 ((ds.map (·.h.name)).take i)).map kvH) (.inr ds[i].h.name) (.int (1 + (i : Int))) = ((numbered 1 ((ds.map (·.h.name)).take i)).map kvH) ++ [(.inr ds[i].h.name, .int (1 + (i : Int)))] := putK_new (f := Sum.inr) (g := V.int) inr_inj _ _ _ hnew
    rw [upd_same, ep, et, numbered_app, List.map_append, hlt]
    rfl
  · obtain ⟨e, h⟩ := q
    have et : (ds.map (·.h.name)).take dvs.length = ds.map (·.h.name) := List.take_of_length_le (by rw [List.length_map]; omega)
    rw [et] at h
    exact k Dl H' hD e h
end
end B72


set_option Elab.async false
set_option linter.all false
set_option maxRecDepth 100000
set_option maxHeartbeats 400000
/-! C22: the dict of places' numbers. -/
namespace B72
open PySem L2 Evl R72 PyProof.Rows
section
variable {K : PySem.W.Frag} {w : World} {H H' : Hp} {D : Ends} {σ : L2.St} {Q : VK} {ds : List Df} {d : Df}
theorem pv_lenD {ta : TE} {a : Addr} {kvs : List (List Key × V)} (ha : Pv ta σ H (.ref a)) (h : H a = some (.dT kvs)) : Pv (tCB (rLenX K) (tCons ta tNil)) σ H (.int kvs.length) := fun _ q => ha _ (.inr (.inr ⟨a, kvs, rfl, h, q⟩))
/-- a def's places, numbered from b on -/
theorem c_places {da dd nd : Addr} {dvs : List V} {kvs : List (List Key × V)} {a1 a2 a3 a4 : Addr} {sv : List V} {p l W hv o7 o8 o9 o10 o11 o12 : Option V} (hs : SqT K H da dvs) (I : DI K H dd a1 a2 a3 a4 sv d) (hnd : H nd = some (.dT kvs)) (hup : (placesD d).Nodup) (hl : d.steps.length ≤ 100)
    (k : ∀ Dl H', H Dl = none → Ex H H' → H' Dl = some (.dT ((numbered (1 + (dvs.length : Int) + (kvs.length : Int)) (placesD d)).map kvP)) → Q (.ref Dl) H') :
    tDcT (iEnumX K (tCons (tOp (rIx K) (tVar 4) (tC (.int (4)))) tNil)) (gTup K 2 (gCons (gName 12) (gCons (gTup K 2 (gCons (gName 7) (gCons (gName 8) gNil))) gNil))) tYes (tTup (tCons (tOp (rIx K) (tVar 4) (tC (.int (0)))) (tCons (tVar 7) tNil))) (tOp (rAddX K) (tOp (rAddX K) (tOp (rAddX K) (tC (.int (1))) (tCB (rLenX K) (tCons (tVar 3) tNil))) (tCB (rLenX K) (tCons (tVar 6) tNil))) (tVar 12)) [12, 7, 8]
      [p, l, W, some (.ref da), some (.ref dd), hv, some (.ref nd), o7, o8, o9, o10, o11, o12] H Q := by
  have hsl : sv.length = d.steps.length := by rw [dpAll_len I.hs, List.length_map]
  refine u_dcTI (u_enum (u_cons (pv_op (pv_var (v := .ref dd) rfl) pv_c (pr_ixt I.hd rfl) _ (pa_nil _ ⟨a4, sv, rfl, .inr ⟨I.h4, fun Dl hD => ?_⟩⟩))))
  have hkl : (1 : Int) + (dvs.length : Int) + (kvs.length : Int) = 1 + (dvs.length : Int) + (kvs.length : Int) := rfl
  generalize hb : (1 : Int) + (dvs.length : Int) + (kvs.length : Int) = b at k
  have hpl : (placesD d).length = d.steps.length := by unfold placesD; rw [List.length_map]
  refine enum_walk (xs := sv) (P := fun i H' => Ex H H' ∧ H' Dl = some (.dT ((numbered b ((placesD d).take i)).map kvP))) ⟨Ex.new hD, upd_same⟩ (fun i H' q => (I.ex q.1).h4) (fun i x T H' hx q hT => ?_) fun H' q => ?_
  · obtain ⟨e, h⟩ := q
    have hi : i < d.steps.length := by have := (List.getElem?_eq_some_iff.mp hx).1; omega
    obtain ⟨x', hx', dx⟩ := dpAll_get I.hs (i := i) (d := stepD d.steps[i]) (by rw [List.getElem?_map, List.getElem?_eq_getElem hi]; rfl)
    rw [hx] at hx'
    cases hx'
    have eT := Ex.new (o := .tup [.int i, x]) hT
    have e2 := e.trans eT
    obtain ⟨xa, xs, rfl, ht, dxs⟩ := dp_tup (dp_ex e2 _ dx)
    obtain ⟨l0, r, rfl, dl, dr⟩ := dpAll_cons dxs
    obtain ⟨av, r, rfl, dav, dr⟩ := dpAll_cons dr
    cases dpAll_nil dr
    cases dp_int dl
    refine ⟨T, _, rfl, st_of upd_same, rfl, _, _, rfl, _, _, rfl, g_n2 ht ⟨rfl, rfl, u_yes ?_⟩⟩
    refine t_tup (pa_cons (pv_op (pv_var (v := .ref dd) rfl) pv_c (pr_ixt (I.ex e2).hd rfl)) (pa_cons (pv_var (v := .int d.steps[i].1) rfl) pa_nil)) (by show 2 ≤ 100000; decide) fun p5 hp5 => ?_
    have e5 := Ex.new (o := HO.tup [.str d.h.name, .int d.steps[i].1]) hp5
    have e25 := e2.trans e5
    have h2 := e5 _ _ (eT _ _ h)
    refine pv_op (pv_op (pv_op pv_c (pv_lent (pv_var (v := .ref da) rfl) (ex_t e25 hs)) pr_add) (pv_lenD (pv_var (v := .ref nd) rfl) (e25 _ _ hnd)) pr_add) (pv_var (v := .int i) rfl) pr_add _ ?_
    rw [hb]
    have hlt : ((placesD d).take i).length = i := by rw [List.length_take]; omega
    have hpi : (placesD d)[i]? = some (d.h.name, d.steps[i].1) := by unfold placesD; rw [List.getElem?_map, List.getElem?_eq_getElem hi]; rfl
    have et : (placesD d).take (i + 1) = (placesD d).take i ++ [(d.h.name, d.steps[i].1)] := by rw [List.take_succ, hpi]; rfl
    refine ⟨_, [.inr d.h.name, .inl d.steps[i].1], p5, rfl, upd_same, h2, by rw [List.length_map, numbered_len, hlt]; exact sz_lt (by omega), e25.mut hD, ?_⟩
    have hnew : (d.h.name, d.steps[i].1) ∉ keysA (numbered b ((placesD d).take i)) := by
      rw [numbered_keys]
      have n2 : ((placesD d).take (i + 1)).Nodup := (List.take_sublist _ _).nodup hup
      rw [et] at n2
      exact fun z => (List.nodup_append.mp n2).2.2 _ z _ (List.mem_singleton.mpr rfl) rfl
    have ep : putK ((numbered b ((placesD d).take i)).map kvP) [.inr d.h.name, .inl d.steps[i].1] (.int (b + (i : Int))) = ((numbered b ((placesD d).take i)).map kvP) ++ [([.inr d.h.name, .inl d.steps[i].1], .int (b + (i : Int)))] := putK_new (f := kP) (g := V.int) kP_inj _ _ _ hnew
    rw [upd_same, ep, et, numbered_app, List.map_append, hlt]
    rfl
  · obtain ⟨e, h⟩ := q
    have et : (placesD d).take sv.length = placesD d := List.take_of_length_le (by omega)
    rw [et] at h
    exact k Dl H' hD e h
end
end B72


set_option Elab.async false
set_option linter.all false
set_option maxRecDepth 100000
set_option maxHeartbeats 4000000
/-! C22b: the places' keys have hashes apart. -/
namespace B72
open PySem L2 Evl R72 PyProof.Rows
def stp (acc : Nat) (h : Int) : Nat :=
  let acc := (acc + (h % ((2 ^ 64 : Nat) : Int)).toNat * 14029467366897019727) % 2 ^ 64
  let acc := (acc * 2 ^ 31) % 2 ^ 64 + acc / 2 ^ 33
  (acc * 11400714785074694791) % 2 ^ 64
def fin2 (acc : Nat) : Int :=
  let acc : Nat := (acc + (2 ^^^ (2870177450012600261 ^^^ 3527539))) % 2 ^ 64
  if acc == 2 ^ 64 - 1 then 1546275796 else if acc < 2 ^ 63 then (acc : Int) else (acc : Int) - ((2 ^ 64 : Nat) : Int)
theorem tuple2 (h1 h2 : Int) : Builtin.Tuple.tupleHashOf [h1, h2] = fin2 (stp (stp 2870177450012600261 h1) h2) := by
  unfold Builtin.Tuple.tupleHashOf
  dsimp only
  rw [List.foldl_cons, List.foldl_cons, List.foldl_nil]
  unfold fin2 stp
  dsimp only [List.length]
theorem mulc {p : Nat} {x y : Nat} (q : Nat) (r : Nat) (e : p * q = 1 + 18446744073709551616 * r) (hx : x < 18446744073709551616) (hy : y < 18446744073709551616) (h : (x * p) % 18446744073709551616 = (y * p) % 18446744073709551616) : x = y := by
  have key : ∀ z : Nat, z < 18446744073709551616 → ((z * p % 18446744073709551616) * q) % 18446744073709551616 = z := by
    intro z hz
    rw [Nat.mod_mul_mod, Nat.mul_assoc, e, Nat.mul_add, Nat.mul_one, Nat.mul_left_comm, Nat.add_mul_mod_self_left]
    exact Nat.mod_eq_of_lt hz
  rw [← key x hx, ← key y hy, h]
def rot (x : Nat) : Nat := (((x * 2147483648) % 18446744073709551616 + x / 8589934592) * 11400714785074694791) % 18446744073709551616
theorem rot_lo (x : Nat) : (x * 2147483648) % 18446744073709551616 = (x % 8589934592) * 2147483648 := Nat.mul_mod_mul_right 2147483648 x 8589934592
theorem rot_in {x : Nat} (hx : x < 18446744073709551616) : (x * 2147483648) % 18446744073709551616 + x / 8589934592 < 18446744073709551616 := by
  rw [rot_lo]
  omega
theorem rot_inj {x y : Nat} (hx : x < 18446744073709551616) (hy : y < 18446744073709551616) (h : rot x = rot y) : x = y := by
  have e : (x * 2147483648) % 18446744073709551616 + x / 8589934592 = (y * 2147483648) % 18446744073709551616 + y / 8589934592 := mulc 614540362697595703 379806830464837242 (by decide) (rot_in hx) (rot_in hy) h
  clear h
  rw [rot_lo, rot_lo] at e
  omega
theorem stp_at {a : Nat} {l : Int} (h0 : 0 ≤ l) (h1 : l ≤ 10000) : stp a l = rot ((a + l.toNat * 14029467366897019727) % 18446744073709551616) := by
  unfold stp rot
  have e : (l % ((2 ^ 64 : Nat) : Int)).toNat = l.toNat := by
    rw [Int.emod_eq_of_lt h0 (by omega)]
  rw [e]
theorem xr : (2 ^^^ (2870177450012600261 ^^^ 3527539) : Nat) = 2870177450013471924 := by decide +kernel
theorem fin2_eq {x y : Nat} (hx : x < 18446744073709551616) (hy : y < 18446744073709551616) (h : fin2 x = fin2 y) : x = y ∨ (x = 15576566623696079691 ∧ y = 15576566625242355488) ∨ (y = 15576566623696079691 ∧ x = 15576566625242355488) := by
  unfold fin2 at h
  rw [xr] at h
  dsimp only at h
  simp only [Nat.reducePow, Nat.reduceSub, beq_iff_eq] at h
  split at h <;> split at h <;> (try split at h) <;> (try split at h) <;> omega
theorem fin2_range {x : Nat} : -9223372036854775808 ≤ fin2 x ∧ fin2 x < 9223372036854775808 ∧ fin2 x ≠ -1 := by
  unfold fin2
  rw [xr]
  dsimp only
  simp only [Nat.reducePow, Nat.reduceSub, beq_iff_eq]
  split <;> (try split) <;> omega
theorem rot_lt (x : Nat) : rot x < 18446744073709551616 := Nat.mod_lt _ (by decide)
theorem rotA : rot 9148689060682678900 = 15576566623696079691 ∧ rot 15881292906973731817 = 15576566625242355488 := by decide +kernel
theorem mulk {p q r : Nat} (e : p * q = 1 + 18446744073709551616 * r) (u b : Nat) : ((u * p + b) * q) % 18446744073709551616 = (u + b * q) % 18446744073709551616 := by
  have e : (u * p + b) * q = u + b * q + 18446744073709551616 * (u * r) := by
    rw [Nat.add_mul, Nat.mul_assoc, e, Nat.mul_add, Nat.mul_one, Nat.mul_left_comm, Nat.add_right_comm]
  rw [e, Nat.add_mul_mod_self_left]
theorem addk {a U V x y : Nat} (y1 : (a + U) % 18446744073709551616 = x) (y2 : (a + V) % 18446744073709551616 = y) : (U + y) % 18446744073709551616 = (V + x) % 18446744073709551616 := by omega
theorem addk2 {a U V : Nat} (y1 : (a + U) % 18446744073709551616 = (a + V) % 18446744073709551616) : U % 18446744073709551616 = V % 18446744073709551616 := by omega
theorem oddk {p q r a u v x y : Nat} (e : p * q = 1 + 18446744073709551616 * r) (y1 : (a + u * p) % 18446744073709551616 = x) (y2 : (a + v * p) % 18446744073709551616 = y) : (u + y * q) % 18446744073709551616 = (v + x * q) % 18446744073709551616 := by
  have e2 := addk y1 y2
  rw [← mulk e, ← mulk e, Nat.mul_mod, e2, ← Nat.mul_mod]
theorem cst : (15881292906973731817 * 839798700976720815) % 18446744073709551616 = 6933820525814994759 ∧ (9148689060682678900 * 839798700976720815) % 18446744073709551616 = 15746002411462551884 := by decide
theorem odd {u v y x : Nat} (hu : u ≤ 10000) (hv : v ≤ 10000) (c1 : y % 18446744073709551616 = 6933820525814994759) (c2 : x % 18446744073709551616 = 15746002411462551884) (h : (u + y) % 18446744073709551616 = (v + x) % 18446744073709551616) : False := by omega
theorem apart {a l k : Nat} (hl : l ≤ 10000) (hk : k ≤ 10000) (h : fin2 (rot ((a + l * 14029467366897019727) % 18446744073709551616)) = fin2 (rot ((a + k * 14029467366897019727) % 18446744073709551616))) : l = k := by
  have x1 : (a + l * 14029467366897019727) % 18446744073709551616 < 18446744073709551616 := Nat.mod_lt _ (by decide)
  have x2 : (a + k * 14029467366897019727) % 18446744073709551616 < 18446744073709551616 := Nat.mod_lt _ (by decide)
  have pq : 14029467366897019727 * 839798700976720815 = 1 + 18446744073709551616 * 638699622168397319 := by decide
  rcases fin2_eq (rot_lt _) (rot_lt _) h with e | ⟨e1, e2⟩ | ⟨e1, e2⟩
  · exact mulc 839798700976720815 638699622168397319 pq (Nat.lt_of_le_of_lt hl (by decide)) (Nat.lt_of_le_of_lt hk (by decide)) (addk2 (rot_inj x1 x2 e))
  · exact (odd hl hk cst.1 cst.2 (oddk pq (rot_inj x1 (by decide) (e1.trans rotA.1.symm)) (rot_inj x2 (by decide) (e2.trans rotA.2.symm)))).elim
  · exact (odd hk hl cst.1 cst.2 (oddk pq (rot_inj x2 (by decide) (e1.trans rotA.1.symm)) (rot_inj x1 (by decide) (e2.trans rotA.2.symm)))).elim
theorem hash_small {l : Int} (h0 : 0 ≤ l) (h1 : l ≤ 10000) : hashInt l = l := by
  have e : rawHash l = l := by
    unfold rawHash
    have h2 : ((l.natAbs : Int) % ((2 ^ 61 - 1 : Nat) : Int)) = l := by omega
    dsimp only
    have n : ¬ l < 0 := by omega
    rw [h2, if_neg n, if_neg (by rw [beq_iff_eq]; omega)]
  unfold hashInt
  rw [e, if_neg (by rw [beq_iff_eq]; omega)]
theorem red_id {i : Int} (h : -9223372036854775808 ≤ i ∧ i < 9223372036854775808 ∧ i ≠ -1) : reduceHash i = i := by
  unfold reduceHash
  have e : (decide (-(2 ^ 63 : Int) ≤ i) && decide (i < 2 ^ 63)) = true := by
    rw [Bool.and_eq_true, decide_eq_true_eq, decide_eq_true_eq]
    omega
  rw [if_pos e, if_neg (by simpa using h.2.2)]
theorem place_hash {w : World} {nm : Str} {l k : Int} (l0 : 0 ≤ l) (l1 : l ≤ 10000) (k0 : 0 ≤ k) (k1 : k ≤ 10000) (h : tupH w [.inr nm, .inl l] = tupH w [.inr nm, .inl k]) : l = k := by
  have key : ∀ l : Int, 0 ≤ l → l ≤ 10000 → tupH w [.inr nm, .inl l] = fin2 (rot ((stp 2870177450012600261 (hashStr w nm) + l.toNat * 14029467366897019727) % 18446744073709551616)) := by
    intro l l0 l1
    show reduceHash (Builtin.Tuple.tupleHashOf [hashStr w nm, hashInt l]) = _
    rw [hash_small l0 l1, tuple2, stp_at l0 l1, red_id fin2_range]
  rw [key l l0 l1, key k k0 k1] at h
  have := apart (by omega) (by omega) h
  omega
end B72


set_option Elab.async false
set_option linter.all false
set_option maxRecDepth 100000
set_option maxHeartbeats 400000
/-! C23: all places' numbers. -/
namespace B72
open PySem L2 Evl R72 PyProof.Rows
section
variable {K : PySem.W.Frag} {w : World} {H H' : Hp} {D : Ends} {σ : L2.St} {Q : VK} {ds : List Df} {d : Df}
theorem places_take (ds : List Df) (i : Nat) (d : Df) (h : ds[i]? = some d) : places (ds.take (i + 1)) = places (ds.take i) ++ placesD d := by
  rw [List.take_succ, h]
  unfold places
  rw [List.flatMap_append]
  simp
theorem places_take_nodup (h : (places ds).Nodup) (i : Nat) : (places (ds.take i)).Nodup := by
  have e : places ds = places (ds.take i) ++ places (ds.drop i) := by
    unfold places
    rw [← List.flatMap_append, List.take_append_drop]
  rw [e] at h
  exact (List.nodup_append.mp h).1
theorem hashes_nodup {b : Int} (hup : (placesD d).Nodup) (hlab : ∀ s ∈ d.steps, 0 ≤ s.1 ∧ s.1 ≤ 10000) : (((numbered b (placesD d)).map kvP).map fun p => tupH w p.1).Nodup := by
  have e : ((numbered b (placesD d)).map kvP).map (fun p => tupH w p.1) = (placesD d).map fun q => tupH w (kP q) := by
    rw [List.map_map]
    conv => rhs; rw [← numbered_keys b (placesD d)]
    unfold keysA
    rw [List.map_map]
    rfl
  rw [e]
  unfold List.Nodup at *
  rw [List.pairwise_map]
  refine List.Pairwise.imp_of_mem (fun {x y} hx hy hne h => ?_) hup
  obtain ⟨s, hs, rfl⟩ := List.mem_map.mp hx
  obtain ⟨s', hs', rfl⟩ := List.mem_map.mp hy
  have a := hlab s hs
  have c := hlab s' hs'
  have := place_hash (w := w) a.1 a.2 c.1 c.2 h
  exact hne (by rw [this])
/-- numbers = {}; for one in defs: numbers.update({..}) -/
theorem c_numbers {da nd : Addr} {dvs : List V} {p l W hv : Option V} (hs : SqT K H da dvs) (hd : DpAll K H dvs (ds.map Df.d)) (hn : (places ds).Nodup) (hl : ds.length ≤ 10) (h20 : ∀ d ∈ ds, d.steps.length ≤ 100) (hlab : ∀ d ∈ ds, ∀ s ∈ d.steps, 0 ≤ s.1 ∧ s.1 ≤ 10000) (h0 : H nd = none)
    (k : ∀ o4 o7 o8 H', Ex H H' → H' nd = some (.dT ((numbered (1 + (ds.length : Int)) (places ds)).map kvP)) → D.nx [p, l, W, some (.ref da), o4, hv, some (.ref nd), o7, o8, none, none, none, none] H') :
    tFor (iSeqX K (tVar 3)) (gName 4) (tDrop (tBM K "dict" (rUpdateX w) (tVar 6) (tCons (tDcT (iEnumX K (tCons (tOp (rIx K) (tVar 4) (tC (.int (4)))) tNil)) (gTup K 2 (gCons (gName 12) (gCons (gTup K 2 (gCons (gName 7) (gCons (gName 8) gNil))) gNil))) tYes (tTup (tCons (tOp (rIx K) (tVar 4) (tC (.int (0)))) (tCons (tVar 7) tNil))) (tOp (rAddX K) (tOp (rAddX K) (tOp (rAddX K) (tC (.int (1))) (tCB (rLenX K) (tCons (tVar 3) tNil))) (tCB (rLenX K) (tCons (tVar 6) tNil))) (tVar 12)) [12, 7, 8]) tNil))) D
      [p, l, W, some (.ref da), none, hv, some (.ref nd), none, none, none, none, none, none] (upd H nd (.dT [])) := by
  have hdl : dvs.length = ds.length := by rw [dpAll_len hd, List.length_map]
  have e0 := Ex.new (o := HO.dT []) h0
  refine f_T (a := da) (xs := dvs) (pv_var rfl) (ex_t e0 hs) (fun i σ' H' => (∃ o4, σ' = [p, l, W, some (.ref da), o4, hv, some (.ref nd), none, none, none, none, none, none]) ∧ Ex H H' ∧ H' nd = some (.dT ((numbered (1 + (ds.length : Int)) (places (ds.take i))).map kvP)))
    ⟨⟨_, rfl⟩, e0, upd_same⟩ (fun i σ' H' _ q => ex_t q.2.1 hs) (fun i x σ' H' hx q => ?_) fun σ' H' q => ?_
  · obtain ⟨⟨o4, rfl⟩, e, h⟩ := q
    have hi : i < ds.length := by have := (List.getElem?_eq_some_iff.mp hx).1; omega
    have hdi : ds[i]? = some ds[i] := List.getElem?_eq_getElem hi
    obtain ⟨x', hx', dx⟩ := dpAll_get hd (i := i) (d := (ds[i]).d) (by rw [List.getElem?_map, hdi]; rfl)
    rw [hx] at hx'
    cases hx'
    obtain ⟨dd, a1, a2, a3, a4, sv, rfl, I⟩ := di_of (dp_ex e _ dx)
    have hpt := places_take ds i ds[i] hdi
    have hnn := places_take_nodup hn (i + 1)
    rw [hpt] at hnn
    have hsd := h20 _ (List.getElem_mem hi)
    dsimp only [gName]
    refine u_drop (u_bm (pv_var (v := .ref nd) rfl _ ⟨.inr (.inr (.inl ⟨rfl, .inr ⟨_, h⟩⟩)), u_cons ?_⟩))
    refine c_places (ex_t e hs) I h (List.nodup_append.mp hnn).2.1 hsd fun Dl H2 hDl e2 h2 => ?_
    have hne : nd ≠ Dl := fun z => by rw [z, hDl] at h; cases h
    have hlen : (places (ds.take i)).length ≤ 1000 := by
      have key : ∀ l : List Df, (∀ d ∈ l, d.steps.length ≤ 100) → (places l).length ≤ 100 * l.length := by
        intro l
        induction l with
        | nil => intro _; exact Nat.le_refl _
        | cons d l ih =>
          intro hl
          have a := ih fun x hx => hl x (List.mem_cons_of_mem _ hx)
          have b := hl d (List.mem_cons_self ..)
          show (placesD d ++ places l).length ≤ _
          rw [List.length_append, List.length_cons]
          have c : (placesD d).length = d.steps.length := by unfold placesD; rw [List.length_map]
          omega
      have a := key (ds.take i) fun d hd => h20 d (List.mem_of_mem_take hd)
      have b : (ds.take i).length ≤ ds.length := by rw [List.length_take]; omega
      omega
    refine pa_nil _ ⟨nd, Dl, rfl, rfl, hne, .inr ⟨_, _, e2 _ _ h, h2, ?_, .inr (hashes_nodup (List.nodup_append.mp hnn).2.1 (hlab _ (List.getElem_mem hi))), ⟨⟨_, rfl⟩, (e.trans e2).mut h0, ?_⟩⟩⟩
    · rw [List.length_map, List.length_map, numbered_len, numbered_len]
      have c : (placesD ds[i]).length = ds[i].steps.length := by unfold placesD; rw [List.length_map]
      exact sz_of (by omega)
    · rw [upd_same, hpt, numbered_app, hdl, List.length_map, numbered_len]
      have q := mergeX_new (f := kP) (g := V.int) kP_inj (numbered (1 + (ds.length : Int) + ((places (ds.take i)).length : Int)) (placesD ds[i])) (numbered (1 + (ds.length : Int)) (places (ds.take i))) (by rw [← numbered_app, numbered_keys]; exact hnn)
      exact congrArg (fun z => some (HO.dT z)) q
  · obtain ⟨⟨o4, rfl⟩, e, h⟩ := q
    have et : ds.take dvs.length = ds := by rw [hdl, List.take_length]
    rw [et] at h
    exact k o4 none none H' e h
end
end B72


set_option Elab.async false
set_option linter.all false
set_option maxRecDepth 100000
set_option maxHeartbeats 400000
/-! C24: compiled. -/
namespace B72
open PySem L2 Evl R72 PyProof.Rows
section
variable {K : PySem.W.Frag} {w : World} {H H' : Hp} {D : Ends} {σ : L2.St} {Q : VK} {E : XK} {ds : List Df} {d : Df} {W : Int}
/-- the places left out, as they lie -/
structure OI (K : PySem.W.Frag) (H : Hp) (lo : Addr) (outs : List (Str × Int)) : Prop where
  d : Dp K H (.ref lo) (.list (outs.map placeD)) ∨ Dp K H (.ref lo) (.tuple (outs.map placeD))
  ok : ∀ p ∈ outs, PyData.strOk p.1 = true
theorem OI.ex {lo : Addr} {outs : List (Str × Int)} (o : OI K H lo outs) (e : Ex H H') : OI K H' lo outs := ⟨o.d.imp (dp_ex e _) (dp_ex e _), o.ok⟩
theorem pv_out {te tl : TE} {pl lo : Addr} {p : Str × Int} {outs : List (Str × Int)} (h1 : Pv te σ H (.ref pl)) (h2 : Pv tl σ H (.ref lo)) (hp : Dp K H (.ref pl) (placeD p)) (hs : PyData.strOk p.1 = true) (o : OI K H lo outs) : Pv (tOp (rInX K true) te tl) σ H (.bl (!decide (p ∈ outs))) :=
  pv_op h1 h2 fun _ q => .inr ⟨placeD p, outs.map placeD, hp, o.d, shaped_place p hs, shaped_places outs o.ok, by rw [any_place]; exact q⟩
/-- which kinds of acts WHYS knows -/
structure PW (K : PySem.W.Frag) : Prop where
  whyIn : ∀ k, (getA partsT k).isSome = true → ∃ r, PySem.W.nsIn K (He.ga K "WHYS") k = some r ∧ r.isSome = (getA whys k).isSome
theorem pv_whys (PWk : PW K) {te : TE} {k : Str} (h : Pv te σ H (.str k)) (hk : (getA partsT k).isSome = true) : Pv (tOp (rInKX K false "WHYS") te (tC (.ref (He.ga K "WHYS")))) σ H (.bl (getA whys k).isSome) := by
  obtain ⟨r, h1, h2⟩ := PWk.whyIn k hk
  refine pv_op h pv_c fun _ q => ⟨k, r, rfl, rfl, h1, ?_⟩
  show _
  rw [← h2] at q
  exact q
/-- a place's number, told by the dict -/
theorem num_get (ds : List Df) {nm : Str} {l : Int} (h : (nm, l) ∈ places ds) : valV ((numbered (1 + (ds.length : Int)) (places ds)).map kvP) [.inr nm, .inl l] = some (.int (numOf ds (nm, l))) := by
  have e := valV_mapG (f := kP) (g := V.int) kP_inj (numbered (1 + (ds.length : Int)) (places ds)) (nm, l)
  rw [numbered_get _ _ _ h] at e
  exact e
theorem head_get (ds : List Df) {f : Str} (h : f ∈ ds.map (·.h.name)) : valV ((numbered 1 (ds.map (·.h.name))).map kvH) (.inr f) = some (.int (headNo ds f)) := by
  have e := valV_mapG (f := (Sum.inr : Str → Key)) (g := V.int) inr_inj (numbered 1 (ds.map (·.h.name))) f
  rw [numbered_get _ _ _ h] at e
  exact e
theorem place_mem {d : Df} (hd : d ∈ ds) {s : Int × PA} (hs : s ∈ d.steps) : (d.h.name, s.1) ∈ places ds := by
  unfold places
  exact List.mem_flatMap.mpr ⟨d, hd, List.mem_map.mpr ⟨s, hs, rfl⟩⟩
end
end B72


set_option Elab.async false
set_option linter.all false
set_option maxRecDepth 100000
set_option maxHeartbeats 400000
/-! C25: compiled, told. -/
namespace B72
open PySem L2 Evl R72 PyProof.Rows
section
variable {K : PySem.W.Frag} {w : World} {H H' : Hp} {D : Ends} {σ : L2.St} {Q : VK} {E : XK} {ds : List Df} {d : Df} {W : Int}
theorem st_ok : PyData.strOk "main" = true ∧ PyData.strOk "f" = true ∧ PyData.strOk "g" = true := by decide +kernel
theorem name_ok (ok : ProgOk W ds) {d : Df} (hd : d ∈ ds) : PyData.strOk d.h.name = true := by
  have := (names_nodup ok).2 d hd
  simp only [List.mem_cons, List.mem_nil_iff, or_false] at this
  rcases this with z | z | z <;> rw [z]
  · exact st_ok.1
  · exact st_ok.2.1
  · exact st_ok.2.2
mutual
/-- no list within -/
def noL : PyData → Bool
  | .list _ => false
  | .dict _ => false
  | .tuple ds => noLs ds
  | _ => true
def noLs : List PyData → Bool
  | [] => true
  | d :: ds => noL d && noLs ds
end
mutual
theorem dp_chg {f : Addr} {zs ys : List V} (hf : H f = some (.lst zs)) : ∀ (d : PyData) {v : V}, noL d = true → Dp K H v d → Dp K (upd H f (.lst ys)) v d
  | .none, _, _, h => by cases h; exact .non
  | .bool b, _, _, h => by cases h; exact .bl b
  | .int i, _, _, h => by cases h; exact .int i
  | .str x, _, _, h => by cases h; exact .str x
  | .list ds, _, n, _ => by simp [noL] at n
  | .tuple ds, _, n, h => by
    cases h with
    | tup hs ha =>
      refine .tup ?_ (dpAll_chg hf ds (by simpa [noL] using n) ha)
      rcases hs with hs | hs
      · left
        rcases hs with hs | ⟨o, hs⟩
        · left; rw [upd_ne (fun q => by rw [q, hf] at hs; cases hs)]; exact hs
        · right; exact ⟨o, by rw [upd_ne (fun q => by rw [q, hf] at hs; cases hs)]; exact hs⟩
      · right; exact hs
  | .dict _, _, _, h => by cases h
theorem dpAll_chg {f : Addr} {zs ys : List V} (hf : H f = some (.lst zs)) : ∀ (ds : List PyData) {vs : List V}, noLs ds = true → DpAll K H vs ds → DpAll K (upd H f (.lst ys)) vs ds
  | [], _, _, h => by cases h; exact .nil
  | d :: ds, _, n, h => by
    have n : noL d = true ∧ noLs ds = true := by simpa [noLs] using n
    cases h with
    | cons a b => exact .cons (dp_chg hf d n.1 a) (dpAll_chg hf ds n.2 b)
end
theorem noLs_strs (xs : List Str) : noLs (xs.map PyData.str) = true := by
  induction xs with
  | nil => rfl
  | cons x xs ih => simp [noLs, noL, ih]
theorem noL_side (s : Side) : noL s.d = true := by cases s <;> rfl
theorem noL_row (c : CR) : noL c.d = true := by
  cases c with
  | st w h => rfl
  | hd h => simp [CR.d, Hd.d, noL, noLs, noLs_strs]
  | rw r =>
    have : noLs r.act.parts = true := by
      cases h : r.act <;> simp [RA.parts, noL, noLs, noLs_strs, noL_side]
    simp [CR.d, Row.d, placeD, noL, noLs, this]
theorem noLs_rows (cs : List CR) : noLs (cs.map CR.d) = true := by
  induction cs with
  | nil => rfl
  | cons c cs ih => simp [noLs, noL_row, ih]
theorem dpAll_app : ∀ {ds es : List PyData} {xs ys : List V}, DpAll K H xs ds → DpAll K H ys es → DpAll K H (xs ++ ys) (ds ++ es)
  | [], _, _, _, a, b => by rw [dpAll_nil a]; exact b
  | d :: ds, es, _, _, a, b => by
    obtain ⟨v, vs, rfl, a1, a2⟩ := dpAll_cons a
    exact .cons a1 (dpAll_app a2 b)
theorem kind_in {wide : Int} {h : Hr} {hs : List Hr} {J : Int → Prop} {a : PA} (ok : ActOk wide h hs J a) : (getA partsT a.kind).isSome = true := by
  cases a with
  | call x f gs => rfl
  | plain a =>
    cases a with
    | sum k x y z =>
      have hk : k = "add" ∨ k = "plus" ∨ k = "minus" ∨ k = "times" := by simpa [sumKs] using ok.1
      rcases hk with z | z | z | z <;> subst z <;> rfl
    | over k x y z => rcases ok.1 with z | z <;> subst z <;> rfl
    | _ => rfl
/-- what stands in the list ahead of a def's row -/
noncomputable def preC (W : Int) (ds : List Df) (lk : Str × Int → Bool) (i : Nat) : List CR :=
  CR.st W (headNo ds "main") :: (ds.map (fun d => CR.hd (hdOf d (firstOf ds d))) ++ (ds.take i).flatMap fun d => d.steps.map fun s => CR.rw (rowOf ds lk d s))
theorem preC_len (W : Int) (ds : List Df) (lk : Str × Int → Bool) (i : Nat) (h3 : ds.length ≤ 3) (h : ∀ d ∈ ds, d.steps.length ≤ 100) : (preC W ds lk i).length ≤ 304 := by
  have key : ∀ l : List Df, (∀ d ∈ l, d.steps.length ≤ 100) → (l.flatMap fun d => d.steps.map fun s => CR.rw (rowOf ds lk d s)).length ≤ 100 * l.length := by
    intro l
    induction l with
    | nil => intro _; exact Nat.le_refl _
    | cons d l ih =>
      intro hl
      have a := ih fun x hx => hl x (List.mem_cons_of_mem _ hx)
      have b := hl d (List.mem_cons_self ..)
      rw [List.flatMap_cons, List.length_append, List.length_map, List.length_cons]
      omega
  have a := key (ds.take i) fun d hd => h d (List.mem_of_mem_take hd)
  have b : (ds.take i).length ≤ ds.length := by rw [List.length_take]; omega
  unfold preC
  rw [List.length_cons, List.length_append, List.length_map]
  omega
theorem first_get (ok : ProgOk W ds) {d : Df} (hd : d ∈ ds) : ∃ s r, d.steps = s :: r := by
  obtain ⟨hs, j, _, so, _⟩ := steps_ok ok hd
  exact List.exists_cons_of_ne_nil so.ne
theorem s_compiled (P : PF K w) (PWk : PW K) (ok : ProgOk W ds) {pv : V} (hp : Dp K H pv (progD W ds)) {lo : Addr} {outs : List (Str × Int)} (O : OI K H lo outs)
    (k : ∀ p H' vs, H p = none → Ex H H' → H' p = some (.lst vs) → DpAll K H' vs ((comp W ds fun pl => !decide (pl ∈ outs)).map CR.d) → Q (.ref p) H') : sp_compiled K w [pv, .ref lo] H Q E := by
  refine ⟨rfl, ?_⟩
  unfold t_compiled
  obtain ⟨pp, ys, rfl, hpp, h2⟩ := dp_tup hp
  obtain ⟨v1, ys, rfl, a1, h2⟩ := dpAll_cons h2
  obtain ⟨v2, ys, rfl, a2, h2⟩ := dpAll_cons h2
  cases dpAll_nil h2
  cases dp_int a1
  obtain ⟨da, dvs, rfl, hda, hdd⟩ := dp_tup a2
  have hdl : dvs.length = ds.length := by rw [dpAll_len hdd, List.length_map]
  have hl3 := ds_len ok
  have h20 : ∀ d ∈ ds, d.steps.length ≤ 100 := fun d hd => (df_ok ok hd).l2
  refine u_seq (a_asg (pv_var (v := .ref pp) rfl) (g_n2 hpp ?_))
  dsimp only
  refine u_seq (u_asg (c_heads hda hdd (names_nodup ok).1 (by omega) fun hdA H1 n1 e1 h1 => ?_))
  dsimp only [gName]
  refine u_seq (u_asg fun nd hnd => ?_)
  dsimp only [gName]
  refine u_seq (c_numbers (ds := ds) (ex_t e1 hda) (dpAll_ex e1 _ hdd) (places_nodup ok) (by omega) h20 (fun d hd s hs => by
    obtain ⟨_, _, _, so, _⟩ := steps_ok ok hd
    exact so.lab s hs) hnd fun o4 o7 o8 H2 e2 h2 => ?_)
  have e02 := e1.trans e2
  have hh2 := e2 _ _ h1
  dsimp only
  -- the row that begins
  have gm : DGet H2 hdA (.str "main") (some (.int (headNo ds "main"))) := by
    have := DGet.k (k := Sum.inr "main") hh2
    rw [head_get ds (main_in ok)] at this
    exact this
  refine u_seq (u_asg (u_lst (u_cons (t_tup (pa_cons pv_c (pa_cons (pv_var (v := .int W) rfl) (pa_cons (pv_get (pv_var (v := .ref hdA) rfl) pv_c gm) pa_nil))) (by show 3 ≤ 100000; decide) fun p3 hp3 => ?_))))
  have e3 := Ex.new (o := HO.tup [.str "start", .int W, .int (headNo ds "main")]) hp3
  refine pa_nil _ ⟨sz_of (by show 1 ≤ 100000; decide), fun fl hfl => ?_⟩
  have e4 := Ex.new (o := HO.lst [.ref p3]) hfl
  have e04 := e02.trans (e3.trans e4)
  have hfl0 : H fl = none := fresh_back (e02.trans e3) hfl
  have h4 : (upd (upd H2 p3 (.tup [.str "start", .int W, .int (headNo ds "main")])) fl (.lst [.ref p3])) fl = some (.lst [.ref p3]) := upd_same
  have d4 : DpAll K (upd (upd H2 p3 (.tup [.str "start", .int W, .int (headNo ds "main")])) fl (.lst [.ref p3])) [.ref p3] [(CR.st W (headNo ds "main")).d] := .cons (.tup (st_of (e4 _ _ upd_same)) (.cons (.str _) (.cons (.int _) (.cons (.int _) .nil)))) .nil
  have n4 := (e3.trans e4) _ _ h2
  have hh4 := (e3.trans e4) _ _ hh2
  generalize upd (upd H2 p3 (.tup [.str "start", .int W, .int (headNo ds "main")])) fl (.lst [.ref p3]) = H4 at e04 h4 d4 n4 hh4 e4
  dsimp only [gName]
  -- heads' rows
  have hlab : ∀ d ∈ ds, ∀ s ∈ d.steps, (d.h.name, s.1) ∈ places ds := fun d hd s hs => place_mem hd hs
  have ed0 : Ex H H4 := e04
  have hnd4 : H4 nd = some (.dT ((numbered (1 + (ds.length : Int)) (places ds)).map kvP)) := n4
  have hda4 := ex_t e04 hda
  have hdd4 := dpAll_ex e04 _ hdd
  refine u_seq (u_drop (u_bm (pv_var (v := .ref fl) rfl _ ⟨.inl ⟨rfl, _, sq_of h4⟩, u_cons (u_lc (u_iseq (pv_var (v := .ref da) rfl _ ⟨da, rfl, .inr ⟨dvs, hda4, fun Dl hDl => ?_⟩⟩)))⟩)))
  have hrow : ∀ d ∈ ds, noLs (((ds.map fun d => CR.hd (hdOf d (firstOf ds d)))).map CR.d) = true := fun _ _ => noLs_rows _
  refine lc_tup (xs := dvs) (fun i H' => Ex H4 H' ∧ ∃ vs, H' Dl = some (.lst vs) ∧ DpAll K H' vs (((ds.take i).map fun d => CR.hd (hdOf d (firstOf ds d))).map CR.d)) ⟨Ex.new hDl, [], upd_same, .nil⟩ (fun i H' _ q => ex_t q.1 hda4) (fun i x H' hx q => ?_) fun H6 q => ?_
  · obtain ⟨e, vs, h, dv⟩ := q
    have hi : i < ds.length := by have := (List.getElem?_eq_some_iff.mp hx).1; omega
    have hdi : ds[i]? = some ds[i] := List.getElem?_eq_getElem hi
    obtain ⟨x', hx', dx⟩ := dpAll_get hdd4 (i := i) (d := (ds[i]).d) (by rw [List.getElem?_map, hdi]; rfl)
    rw [hx] at hx'
    cases hx'
    have hm : ds[i] ∈ ds := List.getElem_mem hi
    generalize hdd' : ds[i] = d at hdi dx hm
    clear hdd'
    obtain ⟨dd, a1, a2, a3, a4, sv, rfl, I⟩ := di_of dx
    refine ⟨rfl, u_yes ?_⟩
    obtain ⟨s0, sr, hs0⟩ := first_get ok hm
    have hst := I.hs
    rw [hs0] at hst
    obtain ⟨s0v, svr, rfl, ds0, _⟩ := dpAll_cons hst
    obtain ⟨xa, xs, rfl, ht, dxs⟩ := dp_tup ds0
    obtain ⟨l0, r, rfl, dl, dr⟩ := dpAll_cons dxs
    obtain ⟨av, r, rfl, dav, dr⟩ := dpAll_cons dr
    cases dpAll_nil dr
    cases dp_int dl
    refine u_call (u_cons (pv_var (v := .ref dd) rfl _ (u_cons ?_)))
    refine pv_var (v := .ref nd) rfl _ ?_
    refine t_tup (pa_cons (pv_op (pv_var (v := .ref dd) rfl) pv_c (pr_ixt (ex_t e I.hd) rfl)) (pa_cons (pv_op (pv_op (pv_op (pv_var (v := .ref dd) rfl) pv_c (pr_ixt (ex_t e I.hd) rfl)) pv_c (pr_ixt (ex_t e I.h4) (atI_zero _ _))) pv_c (pr_ixt (ex_t e ht) (atI_zero _ _))) pa_nil)) (by show 2 ≤ 100000; decide) fun p5 hp5 => ?_
    have e5 := Ex.new (o := HO.tup [.str d.h.name, .int s0.1]) hp5
    have e45 := e.trans e5
    have hv := num_get ds (hlab d hm s0 (by rw [hs0]; exact List.mem_cons_self ..))
    have ef : firstOf ds d = numOf ds (d.h.name, s0.1) := by unfold firstOf; rw [hs0]; rfl
    rw [← ef] at hv
    have dg := DGet.t (k := [.inr d.h.name, .inl s0.1]) (e45 _ _ hnd4) (b := p5) upd_same
    rw [hv] at dg
    refine ⟨nd, _, rfl, dg, pa_nil _ ?_⟩
    refine s_head_row P (dp_ex e45 _ dx) (df_ok ok hm) (first := firstOf ds d) fun p6 H7 e7 d7 => ?_
    have h7 := e7 _ _ (e5 _ _ h)
    have ev : vs.length = i := by rw [dpAll_len dv, List.length_map, List.length_map, List.length_take]; omega
    refine ⟨vs, h7, sz_lt (by omega), (e45.trans e7).mut hDl, vs ++ [.ref p6], upd_same, ?_⟩
    rw [List.take_succ, hdi, show (some d).toList = [d] from rfl, List.map_append, List.map_append]
    exact dpAll_snoc (dpAll_chg h7 _ (noLs_rows _) (dpAll_ex (e5.trans e7) _ dv)) (dp_chg h7 _ (noL_row (.hd _)) d7)
  obtain ⟨e6, vs6, h6, dv6⟩ := q
  have et6 : ds.take dvs.length = ds := by rw [hdl, List.take_length]
  rw [et6] at dv6
  have hfl6 := e6 _ _ h4
  have hne : fl ≠ Dl := fun z => by rw [z, hDl] at h4; cases h4
  have hv6 : vs6.length = ds.length := by rw [dpAll_len dv6, List.length_map, List.length_map]
  refine pa_nil _ ⟨fl, Dl, _, vs6, rfl, rfl, hfl6, .inl h6, sz_of (by rw [hv6]; show 1 + ds.length ≤ 100000; omega), ?_⟩
  -- the loop over the defs
  have eb : Ex (upd H2 p3 (.tup [.str "start", .int W, .int (headNo ds "main")])) H4 := e4
  have hflb : (upd H2 p3 (.tup [.str "start", .int W, .int (headNo ds "main")])) fl = none := hfl
  have e0b : Ex H (upd H2 p3 (.tup [.str "start", .int W, .int (headNo ds "main")])) := e02.trans e3
  have ndb := e3 _ _ h2
  have hhb := e3 _ _ hh2
  generalize upd H2 p3 (.tup [.str "start", .int W, .int (headNo ds "main")]) = Hb at eb hflb e0b ndb hhb
  have hdab := ex_t e0b hda
  have hddb := dpAll_ex e0b _ hdd
  have OB := O.ex e0b
  have p0 : DpAll K (upd H6 fl (.lst ([.ref p3] ++ vs6))) ([.ref p3] ++ vs6) ((preC W ds (fun pl => !decide (pl ∈ outs)) 0).map CR.d) := by
    have : preC W ds (fun pl => !decide (pl ∈ outs)) 0 = [CR.st W (headNo ds "main")] ++ ds.map (fun d => CR.hd (hdOf d (firstOf ds d))) := by unfold preC; simp
    rw [this, List.map_append]
    exact dpAll_chg hfl6 _ (by rw [← List.map_append]; exact noLs_rows _) (dpAll_app (dpAll_ex e6 _ d4) dv6)
  dsimp only [gName]
  refine u_seq (f_T (a := da) (xs := dvs) (pv_var rfl) (ex_t ((eb.trans e6).mut hflb) hdab)
    (fun i σ' H' => (∃ o4 o7 o8 o10 o11, σ' = [some (.ref pp), some (.ref lo), some (.int W), some (.ref da), o4, some (.ref hdA), some (.ref nd), o7, o8, some (.ref fl), o10, o11, none]) ∧ Ex Hb H' ∧ ∃ vs, H' fl = some (.lst vs) ∧ DpAll K H' vs ((preC W ds (fun pl => !decide (pl ∈ outs)) i).map CR.d))
    ⟨⟨_, _, _, _, _, rfl⟩, (eb.trans e6).mut hflb, _, upd_same, p0⟩ (fun i σ' H' _ q => ex_t q.2.1 hdab) (fun i x σ' H' hx q => ?_) fun σ' H' q => ?_)
  · obtain ⟨⟨o4, o7, o8, o10, o11, rfl⟩, e, vs, h, dv⟩ := q
    have hi : i < ds.length := by have := (List.getElem?_eq_some_iff.mp hx).1; omega
    have hdi : ds[i]? = some ds[i] := List.getElem?_eq_getElem hi
    obtain ⟨x', hx', dx⟩ := dpAll_get hddb (i := i) (d := (ds[i]).d) (by rw [List.getElem?_map, hdi]; rfl)
    rw [hx] at hx'
    cases hx'
    have hm : ds[i] ∈ ds := List.getElem_mem hi
    generalize hdd' : ds[i] = d at hdi dx hm
    clear hdd'
    obtain ⟨dd, a1, a2, a3, a4, sv, rfl, I⟩ := di_of dx
    have hsl : sv.length = d.steps.length := by rw [dpAll_len I.hs, List.length_map]
    dsimp only [gName]
    refine f_T (a := a4) (xs := sv) (pv_op (pv_var (v := .ref dd) rfl) pv_c (pr_ixt (ex_t e I.hd) rfl)) (ex_t e I.h4)
      (fun j σ' H' => (∃ o7 o8 o10 o11, σ' = [some (.ref pp), some (.ref lo), some (.int W), some (.ref da), some (.ref dd), some (.ref hdA), some (.ref nd), o7, o8, some (.ref fl), o10, o11, none]) ∧ Ex Hb H' ∧ ∃ vs, H' fl = some (.lst vs) ∧ DpAll K H' vs ((preC W ds (fun pl => !decide (pl ∈ outs)) i ++ (d.steps.take j).map fun s => CR.rw (rowOf ds (fun pl => !decide (pl ∈ outs)) d s)).map CR.d))
      ⟨⟨_, _, _, _, rfl⟩, e, vs, h, by simpa using dv⟩ (fun j σ' H' _ q => ex_t q.2.1 I.h4) (fun j x σ' H' hx q => ?_) fun σ' H' q => ?_
    · obtain ⟨⟨o7, o8, o10, o11, rfl⟩, e, vs, h, dv⟩ := q
      have hj : j < d.steps.length := by have := (List.getElem?_eq_some_iff.mp hx).1; omega
      have hsj : d.steps[j]? = some d.steps[j] := List.getElem?_eq_getElem hj
      obtain ⟨x', hx', ds_⟩ := dpAll_get I.hs (i := j) (d := stepD d.steps[j]) (by rw [List.getElem?_map, hsj]; rfl)
      rw [hx] at hx'
      cases hx'
      have hsm : d.steps[j] ∈ d.steps := List.getElem_mem hj
      generalize hss : d.steps[j] = s at hsj ds_ hsm
      clear hss
      obtain ⟨xa, xs, rfl, ht, dxs⟩ := dp_tup ds_
      obtain ⟨l0, r, rfl, dl, dr⟩ := dpAll_cons dxs
      obtain ⟨av, r, rfl, dav, dr⟩ := dpAll_cons dr
      cases dpAll_nil dr
      cases dp_int dl
      obtain ⟨pa, axs, rfl, hpa, daxs⟩ := dp_tup dav
      obtain ⟨k0, ps, rfl, dk, dps⟩ := dpAll_cons daxs
      cases dp_str dk
      obtain ⟨hs, jj, o, so, hso⟩ := steps_ok ok hm
      have aok := so.act s hsm
      refine g_n2 (ex_t e ht) ?_
      dsimp only
      refine u_seq (u_asg (t_tup (pa_cons (pv_op (pv_var (v := .ref dd) rfl) pv_c (pr_ixt (ex_t e I.hd) rfl)) (pa_cons (pv_var (v := .int s.1) rfl) pa_nil)) (by show 2 ≤ 100000; decide) fun p5 hp5 => ?_))
      have e5 := Ex.new (o := HO.tup [.str d.h.name, .int s.1]) hp5
      have eb5 := e.trans e5
      have h5 := e5 _ _ h
      have hp5' : (upd H' p5 (HO.tup [.str d.h.name, .int s.1])) p5 = some (HO.tup [.str d.h.name, .int s.1]) := upd_same
      generalize upd H' p5 (HO.tup [.str d.h.name, .int s.1]) = H5 at e5 eb5 h5 hp5'
      have dplace : Dp K H5 (.ref p5) (placeD (d.h.name, s.1)) := .tup (st_of hp5') (.cons (.str _) (.cons (.int _) .nil))
      dsimp only [gName]
      refine u_seq (a_asg (pv_andV (pv_whys PWk (pv_op (pv_var (v := .ref pa) rfl) pv_c (pr_ixt (ex_t eb5 hpa) (atI_zero _ _))) (kind_in aok)) fun _ => pv_out (pv_var (v := .ref p5) rfl) (pv_var (v := .ref lo) rfl) dplace (name_ok ok hm) (OB.ex eb5)) ?_)
      dsimp only [gName]
      refine u_drop (u_bm (pv_var (v := .ref fl) rfl _ ⟨.inl ⟨rfl, _, sq_of h5⟩, u_cons ?_⟩))
      have hnum : Num H5 nd hdA d.h.name (fun j => numOf ds (d.h.name, j)) (headNo ds) s.2 s.1 := by
        refine ⟨_, _, eb5 _ _ ndb, eb5 _ _ hhb, num_get ds (hlab d hm s hsm), fun sA g tB j' ea => ?_, fun j' ea => ?_, fun x f gs ea => ?_⟩
        · rw [ea] at aok
          obtain ⟨s', hs', ej⟩ := List.mem_map.mp aok.2.2.2
          have := num_get ds (hlab d hm s' hs')
          rw [ej] at this
          exact this
        · rw [ea] at aok
          obtain ⟨s', hs', ej⟩ := List.mem_map.mp (show j' ∈ d.steps.map (·.1) from aok)
          have := num_get ds (hlab d hm s' hs')
          rw [ej] at this
          exact this
        · rw [ea] at aok
          obtain ⟨o', ho', en, _⟩ := aok.2.1
          obtain ⟨d', hd', ed⟩ := hso o' ho'
          exact head_get ds (List.mem_map.mpr ⟨d', hd', by rw [ed, en]⟩)
      refine t_call (pa_cons (pv_var (v := .ref p5) rfl) (pa_cons (pv_var (v := .ref pa) rfl) (pa_cons (pv_var (v := .ref nd) rfl) (pa_cons (pv_var (v := .ref hdA) rfl) (pa_cons (pv_var rfl) pa_nil))))) (s_step_row (nm := d.h.name) (lab := s.1) (a := s.2) hp5' (.tup (ex_t eb5 hpa) (.cons (.str _) (dpAll_ex eb5 _ dps))) aok hnum fun p7 H7 e7 d7 => ?_)
      have h7 := e7 _ _ h5
      have hpl := preC_len W ds (fun pl => !decide (pl ∈ outs)) i hl3.2 h20
      have hsl2 := h20 d hm
      have ev : vs.length ≤ 1000 := by
        rw [dpAll_len dv, List.length_map, List.length_append, List.length_map, List.length_take]; omega
      refine pa_nil _ ⟨fl, vs, .ref p7, rfl, rfl, h7, sz_lt (by omega), ⟨_, _, _, _, rfl⟩, (eb5.trans e7).mut hflb, _, upd_same, ?_⟩
      have el : (preC W ds (fun pl => !decide (pl ∈ outs)) i ++ (d.steps.take (j + 1)).map fun s => CR.rw (rowOf ds (fun pl => !decide (pl ∈ outs)) d s)).map CR.d = (preC W ds (fun pl => !decide (pl ∈ outs)) i ++ (d.steps.take j).map fun s => CR.rw (rowOf ds (fun pl => !decide (pl ∈ outs)) d s)).map CR.d ++ [(CR.rw (rowOf ds (fun pl => !decide (pl ∈ outs)) d s)).d] := by
        rw [List.take_succ, hsj, show (some s).toList = [s] from rfl]; simp
      rw [el]
      exact dpAll_snoc (dpAll_chg h7 _ (noLs_rows _) (dpAll_ex (e5.trans e7) _ dv)) (dp_chg h7 _ (noL_row (.rw _)) d7)
    · obtain ⟨⟨o7, o8, o10, o11, rfl⟩, e, vs, h, dv⟩ := q
      refine ⟨⟨_, _, _, _, _, rfl⟩, e, vs, h, ?_⟩
      have e1 : d.steps.take sv.length = d.steps := by rw [hsl, List.take_length]
      rw [e1] at dv
      have e2 : preC W ds (fun pl => !decide (pl ∈ outs)) (i + 1) = preC W ds (fun pl => !decide (pl ∈ outs)) i ++ d.steps.map fun s => CR.rw (rowOf ds (fun pl => !decide (pl ∈ outs)) d s) := by
        unfold preC
        rw [List.take_succ, hdi, show (some d).toList = [d] from rfl, List.flatMap_append, List.cons_append, List.append_assoc]
        simp
      rw [e2]
      exact dv
  · obtain ⟨⟨o4, o7, o8, o10, o11, rfl⟩, e, vs, h, dv⟩ := q
    have e2 : preC W ds (fun pl => !decide (pl ∈ outs)) dvs.length = comp W ds (fun pl => !decide (pl ∈ outs)) := by unfold preC comp; rw [et6]
    rw [e2] at dv
    dsimp only
    refine a_ret (pv_var (v := .ref fl) rfl) (k fl H' vs hfl0 (e0b.trans e) h dv)
end
end B72


set_option Elab.async false
set_option linter.all false
set_option maxRecDepth 100000
set_option maxHeartbeats 400000
/-! C26: def_at, act_at, places_of. -/
namespace B72
open PySem L2 Evl R72 PyProof.Rows
section
variable {K : PySem.W.Frag} {w : World} {H H' : Hp} {D : Ends} {σ : L2.St} {Q : VK} {E : XK} {ds : List Df} {d : Df} {W : Int}
theorem merge_mem {k : Key} (more : List (Key × V)) : ∀ acc : List (Key × V), ((∃ v, valV acc k = some v ∧ (k, v) ∈ acc ++ more) ∨ k ∈ more.map (·.1)) → (∃ v, valV (mergeK acc more) k = some v ∧ ((k, v) ∈ acc ++ more)) := by
  induction more with
  | nil =>
    intro acc h
    rcases h with h | h
    · exact h
    · cases h
  | cons q more ih =>
    intro acc h
    show ∃ v, valV (mergeK (putK acc q.1 q.2) more) k = some v ∧ _
    have hs : ∀ v, (k, v) ∈ putK acc q.1 q.2 ++ more → (k, v) ∈ acc ++ q :: more := by
      intro v hv
      rcases List.mem_append.mp hv with z | z
      · unfold putK at z
        split at z
        · obtain ⟨e, he, h2⟩ := List.mem_map.mp z
          by_cases y : e.1 = q.1
          · rw [if_pos y, y] at h2
            rw [← h2]
            exact List.mem_append_right _ (List.mem_cons_self ..)
          · rw [if_neg y] at h2
            rw [← h2]
            exact List.mem_append_left _ he
        · rcases List.mem_append.mp z with z | z
          · exact List.mem_append_left _ z
          · rw [List.mem_singleton.mp z]; exact List.mem_append_right _ (List.mem_cons_self ..)
      · exact List.mem_append_right _ (List.mem_cons_of_mem _ z)
    have val_put : valV (putK acc q.1 q.2) k = if q.1 = k then some q.2 else valV acc k := by
      clear ih h hs
      unfold putK
      by_cases hany : (acc.any fun kv => decide (kv.1 = q.1)) = true
      · rw [if_pos hany]
        induction acc with
        | nil => simp at hany
        | cons e acc ih =>
          unfold valV at *
          by_cases y : e.1 = q.1
          · by_cases z : q.1 = k
            · simp [y, z]
            · have z2 : ¬ e.1 = k := fun w => z (y ▸ w)
              simp only [List.map_cons, if_pos y, List.find?_cons, decide_eq_false z2, if_neg z]
              by_cases w : (acc.any fun kv => decide (kv.1 = q.1)) = true
              · have := ih w
                rw [if_neg z] at this
                exact this
              · have ea : acc.map (fun kv => if kv.1 = q.1 then (kv.1, q.2) else kv) = acc := by
                  conv => rhs; rw [← List.map_id acc]
                  apply List.map_congr_left
                  intro x hx
                  have : ¬ x.1 = q.1 := fun c => w (List.any_eq_true.mpr ⟨x, hx, decide_eq_true c⟩)
                  rw [if_neg this]; rfl
                rw [ea]
          · have w : (acc.any fun kv => decide (kv.1 = q.1)) = true := by
              rw [List.any_cons, decide_eq_false y, Bool.false_or] at hany
              exact hany
            have := ih w
            simp only [List.map_cons, if_neg y, List.find?_cons]
            by_cases z : e.1 = k
            · have z2 : ¬ q.1 = k := fun c => y (z.trans c.symm)
              simp [z, z2]
            · rw [decide_eq_false z]
              exact this
      · rw [if_neg hany]
        unfold valV
        rw [List.find?_append]
        cases hf : acc.find? fun kv => decide (kv.1 = k) with
        | none =>
          by_cases z : q.1 = k
          · simp [z]
          · simp [z]
        | some e =>
          have h1 := List.find?_some hf
          have h2 := List.mem_of_find?_eq_some hf
          have h1 : e.1 = k := of_decide_eq_true h1
          have z : ¬ q.1 = k := fun c => hany (List.any_eq_true.mpr ⟨e, h2, decide_eq_true (h1.trans c.symm)⟩)
          simp [z]
    have : (∃ v, valV (putK acc q.1 q.2) k = some v ∧ (k, v) ∈ putK acc q.1 q.2 ++ more) ∨ k ∈ more.map (·.1) := by
      rw [val_put]
      by_cases z : q.1 = k
      · refine .inl ⟨q.2, by rw [if_pos z], List.mem_append_left _ ?_⟩
        rw [← z]
        unfold putK
        split
        · rename_i hany
          obtain ⟨e, he, h2⟩ := List.any_eq_true.mp hany
          have h2 : e.1 = q.1 := of_decide_eq_true h2
          exact List.mem_map.mpr ⟨e, he, by rw [if_pos h2, h2]⟩
        · exact List.mem_append_right _ (List.mem_cons_self ..)
      · rw [if_neg z]
        rcases h with ⟨v, h1, h2⟩ | h
        · refine .inl ⟨v, h1, ?_⟩
          rcases List.mem_append.mp h2 with y | y
          · refine List.mem_append_left _ ?_
            unfold putK
            split
            · exact List.mem_map.mpr ⟨(k, v), y, by rw [if_neg (fun c => z c.symm)]⟩
            · exact List.mem_append_left _ y
          · rcases List.mem_cons.mp y with y | y
            · exact absurd (by rw [← y]) z
            · exact List.mem_append_right _ y
        · rw [List.map_cons] at h
          rcases List.mem_cons.mp h with y | y
          · exact absurd y.symm z
          · exact .inr y
    obtain ⟨v, h1, h2⟩ := ih _ this
    exact ⟨v, h1, hs v h2⟩
/-- a program as it lies -/
structure QI (K : PySem.W.Frag) (H : Hp) (pp da : Addr) (dvs : List V) (W : Int) (ds : List Df) : Prop where
  hp : SqT K H pp [.int W, .ref da]
  hd : SqT K H da dvs
  dd : DpAll K H dvs (ds.map Df.d)
theorem QI.ex {pp da : Addr} {dvs : List V} (q : QI K H pp da dvs W ds) (e : Ex H H') : QI K H' pp da dvs W ds := ⟨ex_t e q.hp, ex_t e q.hd, dpAll_ex e _ q.dd⟩
theorem qi_of {pv : V} (hp : Dp K H pv (progD W ds)) : ∃ pp da dvs, pv = .ref pp ∧ QI K H pp da dvs W ds := by
  obtain ⟨pp, ys, rfl, hpp, h2⟩ := dp_tup hp
  obtain ⟨v1, ys, rfl, a1, h2⟩ := dpAll_cons h2
  obtain ⟨v2, ys, rfl, a2, h2⟩ := dpAll_cons h2
  cases dpAll_nil h2
  cases dp_int a1
  obtain ⟨da, dvs, rfl, hda, hdd⟩ := dp_tup a2
  exact ⟨pp, da, dvs, rfl, hpp, hda, hdd⟩
theorem dp_in {vs : List V} {es : List PyData} (h : DpAll K H vs es) : ∀ v ∈ vs, ∃ d ∈ es, Dp K H v d := by
  induction es generalizing vs with
  | nil => rw [dpAll_nil h]; intro v hv; cases hv
  | cons e es ih =>
    obtain ⟨v0, vs', rfl, a, b⟩ := dpAll_cons h
    intro v hv
    rcases List.mem_cons.mp hv with z | z
    · rw [z]; exact ⟨e, List.mem_cons_self .., a⟩
    · obtain ⟨d, h1, h2⟩ := ih b v z
      exact ⟨d, List.mem_cons_of_mem _ h1, h2⟩
/-- .. each def's steps in a tuple without a dict of its own -/
structure QF (K : PySem.W.Frag) (H : Hp) (pp da : Addr) (dvs : List V) (W : Int) (ds : List Df) : Prop extends QI K H pp da dvs W ds where
  fs : Paired (StF K H) dvs ds
theorem QF.ex {pp da : Addr} {dvs : List V} (q : QF K H pp da dvs W ds) (e : Ex H H') : QF K H' pp da dvs W ds := ⟨q.toQI.ex e, Paired.imp (fun _ _ z => z.ex e) q.fs⟩
theorem qf_of {pv : V} (hp : PgF K H pv W ds) : ∃ pp da dvs, pv = .ref pp ∧ QF K H pp da dvs W ds := by
  obtain ⟨pp, da, dvs, rfl, h1, h2, h3⟩ := hp
  exact ⟨pp, da, dvs, rfl, ⟨h1, h2, stfs_dp h3⟩, h3⟩
theorem s_def_at (ok : ProgOk W ds) {pp da : Addr} {dvs : List V} (I : QF K H pp da dvs W ds) {nm : Str} (hn : nm ∈ ds.map (·.h.name))
    (k : ∀ v d H', Ex H H' → d ∈ ds → d.h.name = nm → StF K H' v d → Q v H') : sp_def_at K w [.ref pp, .str nm] H Q E := by
  refine ⟨rfl, ?_⟩
  unfold t_def_at
  have hl3 := ds_len ok
  have hdl : dvs.length = ds.length := by rw [dpAll_len I.dd, List.length_map]
  refine u_ret (u_op (u_lc (u_iseq (pv_op (pv_var (v := .ref pp) rfl) pv_c (pr_ixt I.hp rfl) _ ⟨da, rfl, .inr ⟨dvs, I.hd, fun Dl hDl => ?_⟩⟩))))
  refine lc_tup (xs := dvs) (fun i H' => Ex H H' ∧ ∃ vs, H' Dl = some (.lst vs) ∧ vs.length ≤ i ∧ (∀ v ∈ vs, ∃ d ∈ ds, d.h.name = nm ∧ StF K H v d) ∧ (vs = [] → ∀ d ∈ ds.take i, d.h.name ≠ nm)) ⟨Ex.new hDl, [], upd_same, Nat.le_refl _, fun v hv => (by cases hv), fun _ d hd => (by simp at hd)⟩ (fun i H' _ q => ex_t q.1 I.hd) (fun i x H' hx q => ?_) fun H6 q => ?_
  · obtain ⟨e, vs, h, q1, q2, q3⟩ := q
    have hi : i < ds.length := by have := (List.getElem?_eq_some_iff.mp hx).1; omega
    have hdi : ds[i]? = some ds[i] := List.getElem?_eq_getElem hi
    obtain ⟨d', hx', dx⟩ := paired_get I.fs hx
    rw [hdi] at hx'
    cases hx'
    have hm : ds[i] ∈ ds := List.getElem_mem hi
    generalize hdd' : ds[i] = d at hdi dx hm
    clear hdd'
    have dx0 := dx
    obtain ⟨dd, a1, a2, a3, a4, sv, rfl, J, _⟩ := dx
    have et : ds.take (i + 1) = ds.take i ++ [d] := by rw [List.take_succ, hdi]; rfl
    refine ⟨rfl, pt_test (pv_eqS (pv_op (pv_var (v := .ref dd) rfl) pv_c (pr_ixt (ex_t e J.hd) rfl)) (pv_var (v := .str nm) rfl)) _ ?_⟩
    by_cases c : d.h.name = nm
    · rw [decide_eq_true c]
      refine u_true (pv_var (v := .ref dd) rfl _ ⟨vs, h, sz_lt (by omega), e.mut hDl, vs ++ [.ref dd], upd_same, by rw [List.length_append]; simp only [List.length_singleton]; omega, fun v hv => ?_, fun z => by simp at z⟩)
      rcases List.mem_append.mp hv with z | z
      · exact q2 v z
      · rw [List.mem_singleton.mp z]; exact ⟨d, hm, c, dx0⟩
    · rw [decide_eq_false c]
      refine u_false ⟨e, vs, h, by omega, q2, fun z d' hd' => ?_⟩
      rw [et] at hd'
      rcases List.mem_append.mp hd' with y | y
      · exact q3 z d' y
      · rw [List.mem_singleton.mp y]; exact c
  · obtain ⟨e, vs, h, q1, q2, q3⟩ := q
    have hv : vs ≠ [] := fun z => by
      obtain ⟨d, hd, en⟩ := List.mem_map.mp hn
      refine q3 z d ?_ en
      rw [hdl, List.take_length]; exact hd
    obtain ⟨v, r, rfl⟩ := List.exists_cons_of_ne_nil hv
    obtain ⟨d, hd, en, dv⟩ := q2 v (List.mem_cons_self ..)
    exact pv_c _ (pr_ixl (sq_of h) (atI_zero _ _) _ (k v d H6 e hd en (dv.ex e)))
theorem mem_place {nm : Str} {l : Int} (h : (nm, l) ∈ places ds) : nm ∈ ds.map (·.h.name) ∧ ∃ d ∈ ds, d.h.name = nm ∧ l ∈ d.steps.map (·.1) := by
  unfold places at h
  obtain ⟨d, hd, h⟩ := List.mem_flatMap.mp h
  obtain ⟨s, hs, e⟩ := List.mem_map.mp h
  cases e
  exact ⟨List.mem_map.mpr ⟨d, hd, rfl⟩, d, hd, rfl, List.mem_map.mpr ⟨s, hs, rfl⟩⟩
theorem s_act_at (ok : ProgOk W ds) {pp da : Addr} {dvs : List V} (I : QF K H pp da dvs W ds) {pl : Addr} {nm : Str} {l : Int} (hpl : SqT K H pl [.str nm, .int l]) (hm : (nm, l) ∈ places ds)
    (k : ∀ v H' a k, Ex H H' → v = .ref a → (∃ r, SqT K H' a (.str k :: r)) → (getA partsT k).isSome = true → Q v H') : sp_act_at K w [.ref pp, .ref pl] H Q E := by
  refine ⟨rfl, ?_⟩
  unfold t_act_at
  obtain ⟨hn, d0, hd0, en0, hl0⟩ := mem_place hm
  refine u_ret ?_
  refine (?_ : tCB (rDicX K) _ _ _ _)
  refine (?_ : tCons _ tNil _ _ _)
  refine u_cons (u_op (t_call (pa_cons (pv_var (v := .ref pp) rfl) (pa_cons (pv_op (pv_var (v := .ref pl) rfl) pv_c (pr_ixt hpl (atI_zero _ _))) pa_nil)) (s_def_at ok I hn fun v d H1 e1 hd en dv => ?_)))
  have e0 : d = d0 := name_inj ok hd hd0 (en.trans en0.symm)
  subst e0
  obtain ⟨dd, a1, a2, a3, a4, sv, rfl, J, Fz4⟩ := dv
  refine pv_c _ (pr_ixt J.hd rfl _ (pa_nil _ ?_))
  have hsl : sv.length = d.steps.length := by rw [dpAll_len J.hs, List.length_map]
  -- the pairs
  have key : ∀ (st : List (Int × PA)) (sv : List V), DpAll K H1 sv (st.map stepD) → ∃ (ps : List Addr) (kvs : List (Key × V)), sv = ps.map V.ref ∧ Paired (fun p kv => SqT K H1 p [kV kv.1, kv.2]) ps kvs ∧ kvs.map (·.1) = st.map (fun s => (Sum.inl s.1 : Key)) ∧ ∀ kv ∈ kvs, ∃ s ∈ st, Dp K H1 kv.2 s.2.d := by
    intro st
    induction st with
    | nil => intro sv h; rw [dpAll_nil h]; exact ⟨[], [], rfl, .nil, rfl, fun kv hkv => by cases hkv⟩
    | cons s st ih =>
      intro sv h
      obtain ⟨v, vs, rfl, a, b⟩ := dpAll_cons h
      obtain ⟨ps, kvs, rfl, h1, h2, h3⟩ := ih vs b
      obtain ⟨xa, xs, rfl, ht, dxs⟩ := dp_tup a
      obtain ⟨l0, r, rfl, dl, dr⟩ := dpAll_cons dxs
      obtain ⟨av, r, rfl, dav, dr⟩ := dpAll_cons dr
      cases dpAll_nil dr
      cases dp_int dl
      refine ⟨xa :: ps, (.inl s.1, av) :: kvs, rfl, .cons ht h1, by rw [List.map_cons, List.map_cons, h2], fun kv hkv => ?_⟩
      rcases List.mem_cons.mp hkv with z | z
      · rw [z]; exact ⟨s, List.mem_cons_self .., dav⟩
      · obtain ⟨s', hs', q⟩ := h3 kv z
        exact ⟨s', List.mem_cons_of_mem _ hs', q⟩
  obtain ⟨ps, kvs, esv, h1, h2, h3⟩ := key _ _ J.hs
  refine ⟨a4, ps, kvs, rfl, .inr (by rw [← esv]; exact Fz4), h1, fun Dl hDl => ?_⟩
  have e2 := Ex.new (o := HO.dK (mergeK [] kvs)) hDl
  refine pv_op (pv_var (v := .ref pl) rfl) pv_c (pr_ixt (ex_t (e1.trans e2) hpl) rfl) _ ?_
  obtain ⟨v, g1, g2⟩ := merge_mem (k := .inl l) kvs [] (.inr (by
    rw [h2]
    obtain ⟨s, hs, es⟩ := List.mem_map.mp hl0
    exact List.mem_map.mpr ⟨s, hs, by rw [es]⟩))
  obtain ⟨s, hs, ds_⟩ := h3 _ (by simpa using g2)
  have dg := DGet.k (k := Sum.inl l) (kvs := mergeK [] kvs) (a := Dl) (H := upd H1 Dl (.dK (mergeK [] kvs))) upd_same
  rw [g1] at dg
  refine ⟨Dl, v, rfl, dg, ?_⟩
  obtain ⟨hs', j, o, so, _⟩ := steps_ok ok hd
  have aok := so.act s hs
  obtain ⟨pa, axs, rfl, hpa, daxs⟩ := dp_tup (dp_ex e2 _ ds_)
  obtain ⟨k0, r, rfl, dk, dps⟩ := dpAll_cons daxs
  cases dp_str dk
  exact k _ _ pa s.2.kind (e1.trans e2) rfl ⟨r, hpa⟩ (kind_in aok)
end
end B72


set_option Elab.async false
set_option linter.all false
set_option maxRecDepth 100000
set_option maxHeartbeats 400000
/-! C27: places_of, looks. -/
namespace B72
open PySem L2 Evl R72 PyProof.Rows
section
variable {K : PySem.W.Frag} {w : World} {H H' : Hp} {D : Ends} {σ : L2.St} {Q : VK} {E : XK} {ds : List Df} {d : Df} {W : Int}
/-- a walk along a tuple -/
theorem walk_T {a : Addr} {xs : List V} {P : Nat → Hp → Prop} {Qd : Hp → Prop} {H1 : Hp} {B : (Hp → Prop) → V → Hp → Prop} (h0 : P 0 H1) (hl : ∀ i H, P i H → SqT K H a xs)
    (hs : ∀ i x H, xs[i]? = some x → P i H → B (P (i + 1)) x H) (hd : ∀ H, P xs.length H → Qd H) :
    ∃ W : Nat → Nat → Hp → Prop, (∃ m, W 0 m H1) ∧ ∀ i m H, W i m H →
      ((Itt K a).stop i H ∧ Qd H) ∨ ((Itt K a).go i H ∧ ∃ Nx : Hp → Prop, (∀ H', Nx H' → ∃ m', m' < m ∧ W (i + 1) m' H') ∧ ∀ x H', (Itt K a).yld i H x H' → B Nx x H') := by
  refine ⟨fun i m H => m = xs.length - i ∧ i ≤ xs.length ∧ P i H, ⟨xs.length, rfl, Nat.zero_le _, h0⟩, ?_⟩
  rintro i m H ⟨rfl, hi, p⟩
  have hx := hl i H p
  by_cases hlt : i < xs.length
  · refine .inr ⟨⟨xs, xs[i], hx, List.getElem?_eq_getElem hlt⟩, P (i + 1), fun H' q => ⟨xs.length - (i + 1), by omega, rfl, hlt, q⟩, ?_⟩
    rintro x H' ⟨rfl, hy⟩
    exact hs i x _ (hy _ hx) p
  · have : i = xs.length := by omega
    subst this
    exact .inl ⟨⟨xs, hx, Nat.le_refl _⟩, hd H p⟩
theorem u_lc2 {wi wi1 : TI} {g g1 : TG} {tt tt1 : TT} {te : TE} {vs vs1 : List Nat} (k : wi σ H fun J H1 => ∀ D, H1 D = none → ∃ W : Nat → Nat → Hp → Prop, (∃ m, W 0 m (upd H1 D (.lst []))) ∧ ∀ i m H, W i m H →
  (J.stop i H ∧ Q (.ref D) H) ∨ (J.go i H ∧ ∃ Nx : Hp → Prop, (∀ H', Nx H' → ∃ m', m' < m ∧ W (i + 1) m' H') ∧ ∀ x H', J.yld i H x H' → g x (wipe σ vs) H' fun σ2 H2 => wipe σ2 vs = wipe σ vs ∧ tt σ2 H2 fun b H3 =>
    if b = true then wi1 σ2 H3 fun J1 H4 => ∃ W1 : Nat → Nat → Hp → Prop, (∃ m, W1 0 m H4) ∧ ∀ j k H, W1 j k H →
      (J1.stop j H ∧ Nx H) ∨ (J1.go j H ∧ ∃ Nx1 : Hp → Prop, (∀ H', Nx1 H' → ∃ k', k' < k ∧ W1 (j + 1) k' H') ∧ ∀ x H', J1.yld j H x H' → g1 x (wipe σ2 vs1) H' fun σ3 H5 => wipe σ3 vs1 = wipe σ2 vs1 ∧ tt1 σ3 H5 fun b H6 =>
        if b = true then te σ3 H6 fun y H7 => ∃ acc, H7 D = some (.lst acc) ∧ acc.length < sizeLine ∧ Nx1 (upd H7 D (.lst (acc ++ [y]))) else Nx1 H6)
    else Nx H3)) : tLc2 wi g tt wi1 g1 tt1 te vs vs1 σ H Q := k
/-- a list of places -/
def PlL (K : PySem.W.Frag) (H : Hp) (ds : List Df) (ts : List V) : Prop := ∀ t ∈ ts, ∃ a nm l, t = .ref a ∧ SqT K H a [.str nm, .int l] ∧ (nm, l) ∈ places ds
theorem PlL.ex {ts : List V} (h : PlL K H ds ts) (e : Ex H H') : PlL K H' ds ts := fun t ht => by
  obtain ⟨a, nm, l, h1, h2, h3⟩ := h t ht
  exact ⟨a, nm, l, h1, ex_t e h2, h3⟩
theorem PlL.chg {ts : List V} (h : PlL K H ds ts) {f : Addr} {zs ys : List V} (hf : H f = some (.lst zs)) : PlL K (upd H f (.lst ys)) ds ts := fun t ht => by
  obtain ⟨a, nm, l, h1, h2, h3⟩ := h t ht
  exact ⟨a, nm, l, h1, st_chg hf h2, h3⟩
theorem PlL.snoc {ts : List V} (h : PlL K H ds ts) {a : Addr} {nm : Str} {l : Int} (h2 : SqT K H a [.str nm, .int l]) (h3 : (nm, l) ∈ places ds) : PlL K H ds (ts ++ [.ref a]) := fun t ht => by
  rcases List.mem_append.mp ht with z | z
  · exact h t z
  · exact ⟨a, nm, l, List.mem_singleton.mp z, h2, h3⟩
theorem s_places_of (ok : ProgOk W ds) {pp da : Addr} {dvs : List V} (I : QI K H pp da dvs W ds)
    (k : ∀ p H' ts, H p = none → Ex H H' → H' p = some (.lst ts) → ts.length ≤ 1000 → PlL K H' ds ts → Q (.ref p) H') : sp_places_of K w [.ref pp] H Q E := by
  refine ⟨rfl, ?_⟩
  unfold t_places_of
  have hl3 := ds_len ok
  have hdl : dvs.length = ds.length := by rw [dpAll_len I.dd, List.length_map]
  refine u_ret ?_
  refine (?_ : tCons _ tNil _ _ _)
  refine u_cons (u_lc2 (u_iseq (pv_op (pv_var (v := .ref pp) rfl) pv_c (pr_ixt I.hp rfl) _ ⟨da, rfl, .inr ⟨dvs, I.hd, fun Dl hDl => ?_⟩⟩)))
  refine walk_T (xs := dvs) (P := fun i H' => Ex H H' ∧ ∃ ts, H' Dl = some (.lst ts) ∧ ts.length ≤ 100 * i ∧ PlL K H' ds ts) ⟨Ex.new hDl, [], upd_same, Nat.le_refl _, fun t ht => by cases ht⟩ (fun i H' q => ex_t q.1 I.hd) (fun i x H' hx q => ?_) fun H6 q => ?_
  · obtain ⟨e, ts, h, q1, q2⟩ := q
    have hi : i < ds.length := by have := (List.getElem?_eq_some_iff.mp hx).1; omega
    have hdi : ds[i]? = some ds[i] := List.getElem?_eq_getElem hi
    obtain ⟨x', hx', dx⟩ := dpAll_get I.dd (i := i) (d := (ds[i]).d) (by rw [List.getElem?_map, hdi]; rfl)
    rw [hx] at hx'
    cases hx'
    have hm : ds[i] ∈ ds := List.getElem_mem hi
    generalize hdd' : ds[i] = d at hdi dx hm
    clear hdd'
    obtain ⟨dd, a1, a2, a3, a4, sv, rfl, J⟩ := di_of dx
    have hsl : sv.length = d.steps.length := by rw [dpAll_len J.hs, List.length_map]
    have hs20 := (df_ok ok hm).l2
    refine ⟨rfl, u_yes (u_iseq (pv_op (pv_var (v := .ref dd) rfl) pv_c (pr_ixt (ex_t e J.hd) rfl) _ ⟨a4, rfl, .inr ⟨sv, ex_t e J.h4, ?_⟩⟩))⟩
    refine walk_T (xs := sv) (P := fun j H' => Ex H H' ∧ ∃ ts, H' Dl = some (.lst ts) ∧ ts.length ≤ 100 * i + j ∧ PlL K H' ds ts) ⟨e, ts, h, q1, q2⟩ (fun i H' q => ex_t q.1 J.h4) (fun j x H' hx q => ?_) fun H6 q => ?_
    · obtain ⟨e, ts, h, q1, q2⟩ := q
      have hj : j < d.steps.length := by have := (List.getElem?_eq_some_iff.mp hx).1; omega
      have hsj : d.steps[j]? = some d.steps[j] := List.getElem?_eq_getElem hj
      obtain ⟨x', hx', ds_⟩ := dpAll_get J.hs (i := j) (d := stepD d.steps[j]) (by rw [List.getElem?_map, hsj]; rfl)
      rw [hx] at hx'
      cases hx'
      have hsm : d.steps[j] ∈ d.steps := List.getElem_mem hj
      generalize hss : d.steps[j] = s at hsj ds_ hsm
      clear hss
      obtain ⟨xa, xs, rfl, ht, dxs⟩ := dp_tup ds_
      obtain ⟨l0, r, rfl, dl, dr⟩ := dpAll_cons dxs
      obtain ⟨av, r, rfl, dav, dr⟩ := dpAll_cons dr
      cases dpAll_nil dr
      cases dp_int dl
      refine g_n2 (ex_t e ht) ⟨rfl, u_yes ?_⟩
      refine t_tup (pa_cons (pv_op (pv_var (v := .ref dd) rfl) pv_c (pr_ixt (ex_t e J.hd) rfl)) (pa_cons (pv_var (v := .int s.1) rfl) pa_nil)) (by show 2 ≤ 100000; decide) fun p5 hp5 => ?_
      have e5 := Ex.new (o := HO.tup [.str d.h.name, .int s.1]) hp5
      have h5 := e5 _ _ h
      refine ⟨ts, h5, sz_lt (by omega), (e.trans e5).mut hDl, ts ++ [.ref p5], upd_same, by rw [List.length_append]; simp only [List.length_singleton]; omega, ?_⟩
      exact ((q2.ex e5).snoc (st_of upd_same) (place_mem hm hsm)).chg h5
    · obtain ⟨e, ts, h, q1, q2⟩ := q
      exact ⟨e, ts, h, by omega, q2⟩
  · obtain ⟨e, ts, h, q1, q2⟩ := q
    refine pa_nil _ (.inr ⟨Dl, ts, fun t => Classical.epsilon fun q : Str × Int => ∃ p, t = .ref p ∧ SqT K H6 p [.str q.1, .int q.2], rfl, sq_of h, fun t ht => ?_, by omega, fun ys p hp hpn => ?_⟩)
    · obtain ⟨a, nm, l, h1, h2, h3⟩ := q2 t ht
      exact Classical.epsilon_spec (p := fun q : Str × Int => ∃ p, t = .ref p ∧ SqT K H6 p [.str q.1, .int q.2]) ⟨(nm, l), a, h1, h2⟩
    · have e7 := Ex.new (o := HO.lst ys) hpn
      refine k p _ ys (fresh_back e hpn) (e.trans e7) upd_same (by rw [hp.length_eq]; omega) fun t ht => ?_
      exact (q2.ex e7) t (hp.mem_iff.mp ht)
/-- a list of looks -/
def LkL (K : PySem.W.Frag) (H : Hp) (ds : List Df) (ts : List V) : Prop := ∀ t ∈ ts, ∃ a b nm l y, t = .ref a ∧ SqT K H a [.ref b, .str y] ∧ SqT K H b [.str nm, .int l] ∧ (nm, l) ∈ places ds
theorem LkL.ex {ts : List V} (h : LkL K H ds ts) (e : Ex H H') : LkL K H' ds ts := fun t ht => by
  obtain ⟨a, b, nm, l, y, h1, h2, h3, h4⟩ := h t ht
  exact ⟨a, b, nm, l, y, h1, ex_t e h2, ex_t e h3, h4⟩
theorem LkL.chg {ts : List V} (h : LkL K H ds ts) {f : Addr} {zs ys : List V} (hf : H f = some (.lst zs)) : LkL K (upd H f (.lst ys)) ds ts := fun t ht => by
  obtain ⟨a, b, nm, l, y, h1, h2, h3, h4⟩ := h t ht
  exact ⟨a, b, nm, l, y, h1, st_chg hf h2, st_chg hf h3, h4⟩
theorem s_looks (P : PF K w) (PWk : PW K) (ok : ProgOk W ds) {pv : V} (hp : PgF K H pv W ds)
    (k : ∀ p H' ts, H p = none → Ex H H' → H' p = some (.lst ts) → ts.length ≤ 1000 → LkL K H' ds ts → Q (.ref p) H') : sp_looks K w [pv] H Q E := by
  refine ⟨rfl, ?_⟩
  unfold t_looks
  obtain ⟨pp, da, dvs, rfl, I⟩ := qf_of hp
  refine u_seq (u_asg (u_lc (u_iseq ?_)))
  refine t_call (pa_cons (pv_var (v := .ref pp) rfl) pa_nil) (s_places_of ok I.toQI fun p1 H1 ts hp1 e1 h1 hl1 hP => ?_)
  refine ⟨p1, rfl, .inl ⟨ts, sq_of h1, fun Dl hDl => ?_⟩⟩
  have hDl0 := fresh_back e1 hDl
  refine lc_list (xs := ts) (fun i H' => Ex H1 H' ∧ ∃ vs, H' Dl = some (.lst vs) ∧ vs.length ≤ i ∧ ∀ t ∈ vs, ∃ a b nm l y, t = .ref a ∧ SqT K H' a [.ref b, .str y] ∧ SqT K H' b [.str nm, .int l] ∧ (nm, l) ∈ places ds ∧ (getA partsT y).isSome = true) ⟨Ex.new hDl, [], upd_same, Nat.le_refl _, fun t ht => by cases ht⟩ (fun i H' _ q => sq_of (q.1 _ _ h1)) (fun i x H' hx q => ?_) fun H6 q => ?_
  · obtain ⟨e, vs, h, q1, q2⟩ := q
    obtain ⟨a, nm, l, rfl, ha, hm⟩ := hP x (List.mem_of_getElem? hx)
    have hi : i < ts.length := (List.getElem?_eq_some_iff.mp hx).1
    refine ⟨rfl, u_yes (u_tup (u_cons (pv_var (v := .ref a) rfl _ (u_cons (u_op ?_)))))⟩
    refine t_call (pa_cons (pv_var (v := .ref pp) rfl) (pa_cons (pv_var (v := .ref a) rfl) pa_nil)) (s_act_at ok (I.ex (e1.trans e)) (ex_t e ha) hm fun v H2 av kd e2 ev hr hk => ?_)
    subst ev
    obtain ⟨r, hr⟩ := hr
    refine pv_c _ (pr_ixt hr (atI_zero _ _) _ (pa_nil _ ⟨sz_of (by show 2 ≤ 100000; decide), fun p5 hp5 => ?_⟩))
    have e5 := Ex.new (o := HO.tup [.ref a, .str kd]) hp5
    have h5 := e5 _ _ (e2 _ _ h)
    refine ⟨vs, h5, sz_lt (by omega), ((e.trans e2).trans e5).mut hDl, vs ++ [.ref p5], upd_same, by rw [List.length_append]; simp only [List.length_singleton]; omega, fun t ht => ?_⟩
    rcases List.mem_append.mp ht with z | z
    · obtain ⟨a', b, nm', l', y, g1, g2, g3, g4⟩ := q2 t z
      exact ⟨a', b, nm', l', y, g1, st_chg h5 (ex_t (e2.trans e5) g2), st_chg h5 (ex_t (e2.trans e5) g3), g4⟩
    · exact ⟨p5, a, nm, l, kd, List.mem_singleton.mp z, st_chg h5 (st_of upd_same), st_chg h5 (ex_t (e.trans (e2.trans e5)) ha), hm, hk⟩
  · obtain ⟨e, vs, h, q1, q2⟩ := q
    dsimp only [gName]
    refine u_ret (u_lc (u_iseq (pv_var (v := .ref Dl) rfl _ ⟨Dl, rfl, .inl ⟨vs, sq_of h, fun D2 hD2 => ?_⟩⟩)))
    refine lc_list (xs := vs) (fun i H' => Ex H6 H' ∧ ∃ us, H' D2 = some (.lst us) ∧ us.length ≤ i ∧ LkL K H' ds us) ⟨Ex.new hD2, [], upd_same, Nat.le_refl _, fun t ht => by cases ht⟩ (fun i H' _ q => sq_of (q.1 _ _ h)) (fun i x H' hx q => ?_) fun H7 q => ?_
    · obtain ⟨e', us, h', q1', q2'⟩ := q
      have hi : i < vs.length := (List.getElem?_eq_some_iff.mp hx).1
      obtain ⟨a, b, nm, l, y, rfl, g2, g3, g4, g5⟩ := q2 x (List.mem_of_getElem? hx)
      refine g_n2 (ex_t e' g2) ⟨rfl, ?_⟩
      refine pt_test (pv_whys PWk (pv_var (v := .str y) rfl) g5) _ ?_
      cases hw : getA whys y with
      | none => exact u_false ⟨e', us, h', by omega, q2'⟩
      | some v =>
        refine u_true (t_tup (pa_cons (pv_var (v := .ref b) rfl) (pa_cons (pv_ixd pv_c (pv_var (v := .str y) rfl) (P.why _ _ hw)) pa_nil)) (by show 2 ≤ 100000; decide) fun p5 hp5 => ?_)
        have e5 := Ex.new (o := HO.tup [.ref b, .str v]) hp5
        have h5 := e5 _ _ h'
        refine ⟨us, h5, sz_lt (by omega), (e'.trans e5).mut hD2, us ++ [.ref p5], upd_same, by rw [List.length_append]; simp only [List.length_singleton]; omega, fun t ht => ?_⟩
        rcases List.mem_append.mp ht with z | z
        · exact ((q2'.ex e5).chg h5) t z
        · exact ⟨p5, b, nm, l, v, List.mem_singleton.mp z, st_chg h5 (st_of upd_same), st_chg h5 (ex_t (e'.trans e5) g3), g4⟩
    · obtain ⟨e', us, h', q1', q2'⟩ := q
      have eH : Ex H H6 := e1.trans e
      exact k D2 H7 us (fresh_back eH hD2) (eH.trans e') h' (by omega) q2'
end
end B72


set_option Elab.async false
set_option linter.all false
set_option maxRecDepth 100000
set_option maxHeartbeats 400000
/-! C28: small data, their texts. -/
namespace B72
open PySem L2 Evl R72 PyProof.Rows
def okS (x : Str) : Bool := PyData.strOk x && decide ((reprText x).length ≤ 20) && PyData.strOk (reprText x)
mutual
def sml : PyData → Bool
  | .none => true
  | .bool _ => true
  | .int i => decide (i.natAbs < 10 ^ 6)
  | .str x => okS x
  | .list xs => smls xs
  | .tuple xs => smls xs
  | .dict _ => false
def smls : List PyData → Bool
  | [] => true
  | x :: xs => sml x && smls xs
end
mutual
def nodes : PyData → Nat
  | .list xs => nodess xs + 1
  | .tuple xs => nodess xs + 1
  | _ => 1
def nodess : List PyData → Nat
  | [] => 0
  | x :: xs => nodes x + nodess xs
end
theorem strOk_append {x y : Str} (hx : PyData.strOk x = true) (hy : PyData.strOk y = true) : PyData.strOk (x ++ y) = true := by
  unfold PyData.strOk at *
  show (x.cps ++ y.cps).all _ = true
  rw [Array.all_append, hx, hy]; rfl
theorem strOk_of (s : String) : PyData.strOk (Str.ofString s) = true := by
  unfold PyData.strOk
  rw [Str.ofString_eq_toList]
  simp only [List.all_toArray, List.all_eq_true, List.mem_map]
  rintro n ⟨c, _, rfl⟩
  have := c.valid
  refine decide_eq_true ?_
  show c.val.toNat < 0x110000
  rcases this with h | h
  · have : c.val.toNat < 0xd800 := h
    omega
  · exact h.2
theorem textFrom_ub : ∀ (ts : List Str) (k : Nat) (acc : Str), (textFrom k acc ts).length ≤ acc.length + piled ts
  | [], _, acc => by rw [piled_nil]; exact Nat.le_refl _
  | t :: ts, k, acc => by
    have ih := textFrom_ub ts (k + 1) (acc ++ (if k > 0 then ", " else "" : String) ++ t)
    have e : (acc ++ (if k > 0 then ", " else "" : String) ++ t).length ≤ acc.length + 2 + t.length := by
      rw [strLen_append, strLen_append]
      by_cases h : k > 0
      · rw [if_pos h]
        have : (Str.ofString ", ").length = 2 := by decide +kernel
        omega
      · rw [if_neg h]
        have : (Str.ofString "").length = 0 := by decide +kernel
        omega
    rw [piled_cons]
    show (textFrom (k + 1) _ ts).length ≤ _
    omega
theorem textFrom_ok : ∀ (ts : List Str) (k : Nat) (acc : Str), PyData.strOk acc = true → (∀ t ∈ ts, PyData.strOk t = true) → PyData.strOk (textFrom k acc ts) = true
  | [], _, acc, h, _ => h
  | t :: ts, k, acc, h, ht => by
    refine textFrom_ok ts (k + 1) _ (strOk_append (strOk_append h (strOk_of _)) (ht t (List.mem_cons_self ..))) fun s hs => ht s (List.mem_cons_of_mem _ hs)
theorem join_ok : ∀ (ts : List Str), (∀ t ∈ ts, PyData.strOk t = true) → PyData.strOk (Str.join ", " ts) = true
  | [], _ => by decide +kernel
  | [x], h => h x (List.mem_cons_self ..)
  | x :: y :: r, h => by
    show PyData.strOk (x ++ ", " ++ Str.join ", " (y :: r)) = true
    exact strOk_append (strOk_append (h x (List.mem_cons_self ..)) (strOk_of _)) (join_ok (y :: r) fun t ht => h t (List.mem_cons_of_mem _ ht))
theorem listText_ub (ts : List Str) : (listText ts).length ≤ 2 + piled ts := by
  unfold listText
  rw [strLen_append]
  have := textFrom_ub ts 0 "["
  have e1 : (Str.ofString "[").length = 1 := by decide +kernel
  have e2 : (Str.ofString "]").length = 1 := by decide +kernel
  omega
theorem tupleText_ub (ts : List Str) : (tupleText ts).length ≤ 3 + piled ts := by
  unfold tupleText
  rw [strLen_append, strLen_append]
  have e1 : (Str.ofString "(").length = 1 := by decide +kernel
  have e2 : (Str.ofString (if ts.length == 1 then ",)" else ")")).length ≤ 2 := by
    split
    · decide +kernel
    · decide +kernel
  have e3 : (Str.join ", " ts).length ≤ piled ts := by
    by_cases h : ts = []
    · subst h; decide +kernel
    · have := join_length_add ts h
      omega
  omega
theorem toS_len {i : Int} (h : i.natAbs < 10 ^ 6) : (Str.ofString (toString i)).length ≤ 7 := by
  have := int_text_length_le10 (a := i) (k := 6) (by decide) h
  rw [Str.ofString_eq_toList]
  simp only [Str.length, List.size_toArray, List.length_map]
  exact this
mutual
theorem sml_len : ∀ d : PyData, sml d = true → (PyData.shown d).length + 2 ≤ 24 * nodes d
  | .none, _ => by decide +kernel
  | .bool true, _ => by decide +kernel
  | .bool false, _ => by decide +kernel
  | .int i, h => by
    have h : i.natAbs < 10 ^ 6 := by simpa [sml] using h
    have := toS_len h
    simp only [PyData.shown, nodes]
    omega
  | .str x, h => by
    have h : okS x = true := by simpa [sml] using h
    unfold okS at h
    simp only [Bool.and_eq_true, decide_eq_true_eq] at h
    simp only [PyData.shown, nodes]
    omega
  | .list xs, h => by
    have := smls_len xs (by simpa [sml] using h)
    have := listText_ub (PyData.shownAll xs)
    simp only [PyData.shown, nodes]
    omega
  | .tuple xs, h => by
    have := smls_len xs (by simpa [sml] using h)
    have := tupleText_ub (PyData.shownAll xs)
    simp only [PyData.shown, nodes]
    omega
  | .dict _, h => by simp [sml] at h
theorem smls_len : ∀ xs : List PyData, smls xs = true → piled (PyData.shownAll xs) ≤ 24 * nodess xs
  | [], _ => by simp [PyData.shownAll, piled_nil, nodess]
  | x :: xs, h => by
    have h : sml x = true ∧ smls xs = true := by simpa [smls] using h
    have := sml_len x h.1
    have := smls_len xs h.2
    simp only [PyData.shownAll, piled_cons, nodess]
    omega
end
mutual
theorem sml_ok : ∀ d : PyData, sml d = true → PyData.canLay0 d = true ∧ PyData.showable d = true ∧ PyData.strOk (PyData.shown d) = true
  | .none, _ => ⟨rfl, rfl, strOk_of "None"⟩
  | .bool true, _ => ⟨rfl, rfl, strOk_of "True"⟩
  | .bool false, _ => ⟨rfl, rfl, strOk_of "False"⟩
  | .int i, h => by
    have h : i.natAbs < 10 ^ 6 := by simpa [sml] using h
    refine ⟨rfl, ?_, strOk_of _⟩
    simp only [PyData.showable, decide_eq_true_eq]
    by_cases z : i.natAbs = 0
    · rw [z]; decide
    · have : i.natAbs.log2 < 20 := (Nat.log2_lt z).mpr (by omega)
      omega
  | .str x, h => by
    have h : okS x = true := by simpa [sml] using h
    unfold okS at h
    simp only [Bool.and_eq_true, decide_eq_true_eq] at h
    exact ⟨h.1.1, rfl, h.2⟩
  | .list xs, h => by
    obtain ⟨a, b, c⟩ := smls_ok xs (by simpa [sml] using h)
    refine ⟨by simpa [PyData.canLay0] using a, by simpa [PyData.showable] using b, ?_⟩
    simp only [PyData.shown]
    exact strOk_append (textFrom_ok _ _ _ (strOk_of _) c) (strOk_of _)
  | .tuple xs, h => by
    obtain ⟨a, b, c⟩ := smls_ok xs (by simpa [sml] using h)
    refine ⟨by simpa [PyData.canLay0] using a, by simpa [PyData.showable] using b, ?_⟩
    simp only [PyData.shown]
    exact strOk_append (strOk_append (strOk_of _) (join_ok _ c)) (strOk_of _)
  | .dict _, h => by simp [sml] at h
theorem smls_ok : ∀ xs : List PyData, smls xs = true → PyData.canLayAll0 xs = true ∧ PyData.showableAll xs = true ∧ ∀ t ∈ PyData.shownAll xs, PyData.strOk t = true
  | [], _ => ⟨rfl, rfl, fun t ht => by simp [PyData.shownAll] at ht⟩
  | x :: xs, h => by
    have h : sml x = true ∧ smls xs = true := by simpa [smls] using h
    obtain ⟨a, b, c⟩ := sml_ok x h.1
    obtain ⟨a', b', c'⟩ := smls_ok xs h.2
    refine ⟨by simp [PyData.canLayAll0, a, a'], by simp [PyData.showableAll, b, b'], fun t ht => ?_⟩
    simp only [PyData.shownAll] at ht
    rcases List.mem_cons.mp ht with z | z
    · rw [z]; exact c
    · exact c' t z
end
theorem smls_map {α : Type} (f : α → PyData) (l : List α) (h : ∀ x ∈ l, sml (f x) = true) : smls (l.map f) = true := by
  induction l with
  | nil => rfl
  | cons x xs ih =>
    rw [List.map_cons]
    simp only [smls, h x (List.mem_cons_self ..), ih fun y hy => h y (List.mem_cons_of_mem _ hy), Bool.and_self]
theorem nodess_map {α : Type} (f : α → PyData) (n : Nat) (l : List α) (h : ∀ x ∈ l, nodes (f x) ≤ n) : nodess (l.map f) ≤ n * l.length := by
  induction l with
  | nil => exact Nat.zero_le _
  | cons x xs ih =>
    have a := h x (List.mem_cons_self ..)
    have b := ih fun y hy => h y (List.mem_cons_of_mem _ hy)
    rw [List.map_cons, List.length_cons]
    simp only [nodess]
    have : n * (xs.length + 1) = n * xs.length + n := by rw [Nat.mul_add, Nat.mul_one]
    omega
/-- fit to be shown and compared -/
structure Fit (d : PyData) : Prop where
  sml : sml d = true
  depth : d.depth ≤ 60
  n : nodes d ≤ 100000
theorem Fit.shaped {d : PyData} (f : Fit d) : SeqAt.shaped d = true := by
  unfold SeqAt.shaped
  rw [(sml_ok d f.sml).1]
  have := f.depth
  simp only [Bool.true_and, decide_eq_true_eq]
  omega
theorem Fit.len {d : PyData} (f : Fit d) : (PyData.shown d).length ≤ sizeLine := by
  have := sml_len d f.sml
  have := f.n
  have e : sizeLine = 16777216 := by decide
  omega
section
variable {K : PySem.W.Frag} {H : Hp} {σ : L2.St} {te : TE} {v : V} {d : PyData}
theorem rr_of {Q : VK} (f : Fit d) (hc : ∃ a, v = .ref a) (hd : Dp K H v d) (q : Q (.str (PyData.shown d)) H) : rReprX K [v] H Q := by
  obtain ⟨a, rfl⟩ := hc
  exact ⟨a, d, rfl, hd, f.shaped, (sml_ok d f.sml).2.1, f.len, q⟩
theorem pv_repr (f : Fit d) (h : Pv te σ H v) (hc : ∃ a, v = .ref a) (hd : Dp K H v d) : Pv (tCB (rReprX K) (tCons te tNil)) σ H (.str (PyData.shown d)) := fun Q q =>
  h _ (rr_of f hc hd q)
theorem ref_tup {ds : List PyData} (h : Dp K H v (.tuple ds)) : ∃ a, v = .ref a := by
  obtain ⟨a, _, rfl, _⟩ := dp_tup h
  exact ⟨a, rfl⟩
theorem ref_lst {ds : List PyData} (h : Dp K H v (.list ds)) : ∃ a, v = .ref a := by
  obtain ⟨a, _, rfl, _⟩ := dp_lst h
  exact ⟨a, rfl⟩
end
end B72


set_option Elab.async false
set_option linter.all false
set_option maxRecDepth 100000
set_option maxHeartbeats 400000
/-! C29: rows and ends are small; steps 0. -/
namespace B72
open PySem L2 Evl R72 PyProof.Rows
section
variable {ds : List Df} {d : Df} {W : Int}
mutual
theorem depth_nodes : ∀ d : PyData, d.hasDict = false → d.depth ≤ nodes d
  | .none, _ => Nat.zero_le _
  | .bool _, _ => Nat.zero_le _
  | .int _, _ => Nat.zero_le _
  | .str _, _ => Nat.zero_le _
  | .list xs, h => by
    have := depthAll_nodess xs (by simpa [PyData.hasDict] using h)
    simp only [PyData.depth, nodes]; omega
  | .tuple xs, h => by
    have := depthAll_nodess xs (by simpa [PyData.hasDict] using h)
    simp only [PyData.depth, nodes]; omega
  | .dict _, h => by simp [PyData.hasDict] at h
theorem depthAll_nodess : ∀ xs : List PyData, PyData.hasDictAll xs = false → PyData.depthAll xs ≤ nodess xs
  | [], _ => Nat.zero_le _
  | x :: xs, h => by
    have h : x.hasDict = false ∧ PyData.hasDictAll xs = false := by simpa [PyData.hasDictAll] using h
    have := depth_nodes x h.1
    have := depthAll_nodess xs h.2
    simp only [PyData.depthAll, nodess]; omega
end
theorem sml_depth {d : PyData} (h : sml d = true) : d.depth ≤ nodes d := depth_nodes d (PyData.hasDict_of_canLay d (sml_ok d h).1)
theorem depthAll_map {α : Type} (f : α → PyData) (n : Nat) (l : List α) (h : ∀ x ∈ l, (f x).depth ≤ n) : PyData.depthAll (l.map f) ≤ n := by
  induction l with
  | nil => exact Nat.zero_le _
  | cons x xs ih =>
    have a := h x (List.mem_cons_self ..)
    have b := ih fun y hy => h y (List.mem_cons_of_mem _ hy)
    rw [List.map_cons]
    simp only [PyData.depthAll]; omega
def allS : List Str := U7 ++ partsT.map (·.1) ++ fwhys ++ (["main", "f", "g", "<", "<=", "start", "def", "fault", "back"] : List Str)
theorem okS_all : ∀ s ∈ allS, okS s = true := by decide +kernel
theorem okS_U {x : Str} (h : x ∈ U7) : okS x = true := okS_all x (by unfold allS; simp only [List.mem_append]; exact .inl (.inl (.inl h)))
theorem okS_kind {x : Str} (h : (getA partsT x).isSome = true) : okS x = true := by
  obtain ⟨v, hv⟩ := Option.isSome_iff_exists.mp h
  have hm : x ∈ partsT.map (·.1) := mem_key hv
  refine okS_all x ?_
  unfold allS
  simp only [List.mem_append]
  exact .inl (.inl (.inr hm))
theorem okS_why {x : Str} (h : x ∈ fwhys) : okS x = true := okS_all x (by unfold allS; simp only [List.mem_append]; exact .inl (.inr h))
theorem okS_w {x : Str} (h : x ∈ (["main", "f", "g", "<", "<=", "start", "def", "fault", "back"] : List Str)) : okS x = true := okS_all x (by unfold allS; simp only [List.mem_append]; exact .inr h)
theorem sml_int {i : Int} (h : -100000 ≤ i ∧ i ≤ 100000) : sml (.int i) = true := by
  simp only [sml, decide_eq_true_eq]; omega
theorem sml_place {p : Str × Int} (h : okS p.1 = true) (h2 : 0 ≤ p.2 ∧ p.2 ≤ 10000) : sml (placeD p) = true := by
  unfold placeD
  simp only [sml, smls, h, Bool.true_and, Bool.and_true, decide_eq_true_eq]; omega
theorem smls_strs {l : List Str} (h : ∀ x ∈ l, okS x = true) : smls (l.map PyData.str) = true := smls_map _ _ fun x hx => by simp only [sml]; exact h x hx
theorem nodess_strs (l : List Str) : nodess (l.map PyData.str) ≤ l.length := by
  have := nodess_map PyData.str 1 l fun x _ => Nat.le_refl _
  omega
theorem lab_ok (ok : ProgOk W ds) {d : Df} (hd : d ∈ ds) {s : Int × PA} (hs : s ∈ d.steps) : okS d.h.name = true ∧ 0 ≤ s.1 ∧ s.1 ≤ 10000 := by
  obtain ⟨_, _, _, so, _⟩ := steps_ok ok hd
  refine ⟨?_, so.lab s hs⟩
  have h2 := (names_nodup ok).2 d hd
  refine okS_w ?_
  simp only [List.mem_cons, List.mem_nil_iff, or_false] at h2 ⊢
  rcases h2 with z | z | z
  · exact .inl z
  · exact .inr (.inl z)
  · exact .inr (.inr (.inl z))
theorem nums_U (ok : ProgOk W ds) {d : Df} (hd : d ∈ ds) {x : Str} (h : x ∈ numsOf d) : x ∈ U7 := by
  have o := df_ok ok hd
  rcases (nm_mem x).mp ((nums_mem x).mp h).1 with z | ⟨s, hs, z⟩
  · exact o.hn x z
  · exact (o.st s hs).2.2.2 x z
theorem rows_U (ok : ProgOk W ds) {d : Df} (hd : d ∈ ds) {x : Str} (h : x ∈ d.h.rows) : x ∈ U7 := (df_ok ok hd).hn x (by simp only [List.mem_append]; exact .inr h)
theorem pars_U (ok : ProgOk W ds) {d : Df} (hd : d ∈ ds) {x : Str} (h : x ∈ d.h.params) : x ∈ U7 := (df_ok ok hd).hn x (by simp only [List.mem_append]; exact .inl (.inl h))
theorem nodes_side (s : Side) : nodes s.d = 1 := by cases s <;> rfl
theorem row_sml (ok : ProgOk W ds) (lk : Str × Int → Bool) {l1 l2 : List Df} {d : Df} {j : Nat} {s : Int × PA} (e : ds = l1 ++ d :: l2) (h : d.steps[j]? = some s) : sml (rowOf ds lk d s).d = true ∧ nodes (rowOf ds lk d s).d ≤ 30 := by
  have hd : d ∈ ds := by rw [e]; simp
  have hsm : s ∈ d.steps := List.mem_of_getElem? h
  obtain ⟨hs, jj, o, so, ho⟩ := steps_ok ok hd
  have oka := so.act s hsm
  have rok := row_ok ok lk e h
  have hW := ok.w
  have cl : (comp W ds lk).length ≤ 64 := by
    rw [comp_len]
    have := flat_len ok
    have := ds_len ok
    omega
  have goes : ∀ {j hd'}, Goes (comp W ds lk) (tyOf ds) hd' j → sml (.int j) = true := by
    intro j hd' g
    obtain ⟨h0, ⟨r, hr⟩, _⟩ := g
    have := (List.getElem?_eq_some_iff.mp hr).1
    exact sml_int ⟨by omega, by omega⟩
  have n_ok : ∀ x, x ∈ (hdOf d (firstOf ds d)).numbers → okS x = true := fun x hx => okS_U (nums_U ok hd hx)
  have r_ok : ∀ x, x ∈ (hdOf d (firstOf ds d)).rows → okS x = true := fun x hx => okS_U (rows_U ok hd hx)
  have s_ok : ∀ z, SideOk W (hdOf d (firstOf ds d)) z → sml z.d = true := by
    intro z hz
    cases z with
    | inl x => exact n_ok x hz
    | inr i => exact sml_int (by have : -W ≤ i ∧ i ≤ W := hz; omega)
  have g_ok : ∀ g : Str, g = "<" ∨ g = "<=" → okS g = true := by
    rintro g (z | z) <;> subst z
    · exact okS_w (by simp)
    · exact okS_w (by simp)
  have parts : smls (rowAct (fun j => numOf ds (d.h.name, j)) (headNo ds) s.2).parts = true ∧ nodess (rowAct (fun j => numOf ds (d.h.name, j)) (headNo ds) s.2).parts ≤ 15 := by
    unfold RowOk rowOf at rok
    dsimp only at rok
    cases hs2 : s.2 with
    | call x f gs =>
      rw [hs2] at rok oka
      simp only [rowAct] at rok ⊢
      obtain ⟨r1, r2, r3, r4, hd', r5, r6, r7⟩ := rok
      have hh := (List.getElem?_eq_some_iff.mp r5).1
      have gl : gs.length ≤ 7 := oka.2.2.2
      refine ⟨?_, ?_⟩
      · simp only [RA.parts, smls, sml, n_ok x r1, Bool.true_and, Bool.and_true, Bool.and_eq_true, decide_eq_true_eq]
        refine ⟨by omega, smls_strs fun g hg => ?_⟩
        rcases r3 g hg with z | z
        · exact n_ok g z
        · exact r_ok g z
      · have := nodess_strs gs
        simp only [RA.parts, nodess, nodes]; omega
    | plain a =>
      rw [hs2] at rok oka
      cases a with
      | set x n =>
        simp only [rowAct] at rok ⊢
        refine ⟨?_, by simp [RA.parts, nodess, nodes]⟩
        simp only [RA.parts, smls, n_ok x rok.1, sml, Bool.true_and, Bool.and_true, decide_eq_true_eq]
        have := rok.2.1; have := rok.2.2.1; omega
      | sum k x y z =>
        simp only [rowAct] at rok ⊢
        refine ⟨?_, by simp [RA.parts, nodess, nodes, nodes_side]⟩
        simp only [RA.parts, smls, sml, n_ok x rok.2.1, n_ok y rok.2.2.1, s_ok z rok.2.2.2.1, Bool.and_self]
      | over k x y z =>
        simp only [rowAct] at rok ⊢
        refine ⟨?_, by simp [RA.parts, nodess, nodes]⟩
        simp only [RA.parts, smls, sml, n_ok x rok.2.1, n_ok y rok.2.2.1, n_ok z rok.2.2.2.1, Bool.and_self]
      | mid x y z =>
        simp only [rowAct] at rok ⊢
        refine ⟨?_, by simp [RA.parts, nodess, nodes]⟩
        simp only [RA.parts, smls, sml, n_ok x rok.1, n_ok y rok.2.1, n_ok z rok.2.2.1, Bool.and_self]
      | row a x =>
        simp only [rowAct] at rok ⊢
        refine ⟨?_, by simp [RA.parts, nodess, nodes]⟩
        simp only [RA.parts, smls, sml, r_ok a rok.1, n_ok x rok.2.1, Bool.and_self]
      | get x a p =>
        simp only [rowAct] at rok ⊢
        refine ⟨?_, by simp [RA.parts, nodess, nodes]⟩
        simp only [RA.parts, smls, sml, n_ok x rok.1, r_ok a rok.2.1, n_ok p rok.2.2.1, Bool.and_self]
      | put a p x =>
        simp only [rowAct] at rok ⊢
        refine ⟨?_, by simp [RA.parts, nodess, nodes]⟩
        simp only [RA.parts, smls, sml, r_ok a rok.1, n_ok p rok.2.1, n_ok x rok.2.2.1, Bool.and_self]
      | len x a =>
        simp only [rowAct] at rok ⊢
        refine ⟨?_, by simp [RA.parts, nodess, nodes]⟩
        simp only [RA.parts, smls, sml, n_ok x rok.1, r_ok a rok.2.1, Bool.and_self]
      | ask x l g =>
        simp only [rowAct] at rok ⊢
        refine ⟨?_, by simp [RA.parts, nodess, nodes]⟩
        simp only [RA.parts, smls, sml, n_ok x rok.1, Bool.true_and, Bool.and_true, Bool.and_eq_true, decide_eq_true_eq]
        have := rok.2.1; have := rok.2.2.1; have := rok.2.2.2.1; omega
      | tell x =>
        simp only [rowAct] at rok ⊢
        refine ⟨?_, by simp [RA.parts, nodess, nodes]⟩
        simp only [RA.parts, smls, sml, n_ok x rok.1, Bool.and_self]
      | chk a g b =>
        simp only [rowAct] at rok ⊢
        refine ⟨?_, by simp [RA.parts, nodess, nodes, nodes_side]⟩
        simp only [RA.parts, smls, sml, s_ok a rok.1, s_ok b rok.2.1, g_ok g oka.2.1, Bool.and_self]
      | iff a g b j =>
        simp only [rowAct] at rok ⊢
        refine ⟨?_, by simp [RA.parts, nodess, nodes, nodes_side]⟩
        have q := goes rok.2.2.2
        simp only [RA.parts, smls, s_ok a rok.1, s_ok b rok.2.1, q, Bool.and_self]
        simp only [sml, g_ok g oka.2.1, Bool.and_self]
      | go j =>
        simp only [rowAct] at rok ⊢
        refine ⟨?_, by simp [RA.parts, nodess, nodes]⟩
        have q := goes rok
        simp only [RA.parts, smls, q, Bool.and_self]
      | back x =>
        simp only [rowAct] at rok ⊢
        refine ⟨?_, by simp [RA.parts, nodess, nodes]⟩
        simp only [RA.parts, smls, sml, n_ok x rok, Bool.and_self]
      | call => exact oka.elim
  have ek : (rowAct (fun j => numOf ds (d.h.name, j)) (headNo ds) s.2).kind = s.2.kind := by
    cases s.2 with
    | call => rfl
    | plain a => cases a <;> rfl
  have hlab := lab_ok ok hd hsm
  have hn := num_at ok e h
  have hfl := flat_len ok
  have hfl2 : (flatS l1).length + j < (flatS ds).length := by
    have hf : (flatS ds)[(flatS l1).length + j]? = some (d, s) := by rw [e]; exact flat_at h
    exact (List.getElem?_eq_some_iff.mp hf).1
  have hl3 := ds_len ok
  refine ⟨?_, ?_⟩
  · have k1 : sml (.str (rowAct (fun j => numOf ds (d.h.name, j)) (headNo ds) s.2).kind) = true := by rw [ek]; exact okS_kind (kind_in oka)
    have k2 : sml (placeD (d.h.name, s.1)) = true := sml_place hlab.1 hlab.2
    have k3 : sml (.int (numOf ds (d.h.name, s.1) + 1)) = true := sml_int ⟨by omega, by omega⟩
    have k4 : sml (.tuple (rowAct (fun j => numOf ds (d.h.name, j)) (headNo ds) s.2).parts) = true := parts.1
    show sml (.tuple [.str _, placeD _, .bool _, .tuple _, .int _]) = true
    show smls [.str _, placeD _, .bool _, .tuple _, .int _] = true
    unfold rowOf
    simp only [smls, k1, k2, k3, k4, Bool.and_self, Bool.true_and]
    rfl
  · have := parts.2
    show nodes (.tuple [.str _, placeD _, .bool _, .tuple _, .int _]) ≤ 30
    unfold rowOf placeD
    simp only [nodes, nodess]
    omega
theorem cr_sml (ok : ProgOk W ds) (lk : Str × Int → Bool) : ∀ c ∈ comp W ds lk, sml c.d = true ∧ nodes c.d ≤ 40 := by
  intro c hc
  obtain ⟨i, hi⟩ := List.mem_iff_getElem?.mp hc
  have hl3 := ds_len ok
  have hW := ok.w
  by_cases h0 : i = 0
  · subst h0
    have : (comp W ds lk)[0]? = some (CR.st W (headNo ds "main")) := rfl
    rw [this] at hi
    cases hi
    have hm := (idx_lt (main_in ok)).1
    rw [List.length_map] at hm
    refine ⟨?_, by simp [CR.d, nodes, nodess]⟩
    have k1 : okS "start" = true := okS_w (by simp)
    have k2 : sml (.int (headNo ds "main")) = true := sml_int (by unfold headNo; omega)
    have k3 : sml (.int W) = true := sml_int (by omega)
    simp only [CR.d, sml, smls] at k1 k2 k3 ⊢
    rw [k1, k2, k3]; rfl
  · by_cases hk : i - 1 < ds.length
    · have q := comp_head W ds lk hk
      have e : 1 + (i - 1) = i := by omega
      rw [e, hi] at q
      have q := Option.some.inj q
      subst q
      have hdm : ds[i - 1] ∈ ds := List.getElem_mem hk
      generalize ds[i - 1] = d at hdm
      obtain ⟨l1, l2, e⟩ := List.append_of_mem hdm
      obtain ⟨hs, j, o, so, _⟩ := steps_ok ok hdm
      have b3 : ∀ l ∈ rowsL, l.length ≤ 2 := by decide
      have b4 := b3 _ o.rows
      have b5 := o.plen
      have b6 := nums_len (df_ok ok hdm)
      have k1 : okS "def" = true := okS_w (by simp)
      have k2 : smls (d.h.params.map PyData.str) = true := smls_strs fun x hx => okS_U (pars_U ok hdm hx)
      have k3 : smls ((numsOf d).map PyData.str) = true := smls_strs fun x hx => okS_U (nums_U ok hdm hx)
      have k4 : smls (d.h.rows.map PyData.str) = true := smls_strs fun x hx => okS_U (rows_U ok hdm hx)
      have k5 : sml (.int (firstOf ds d)) = true := by
        obtain ⟨h0, ⟨r, hr⟩, _⟩ := first_at ok lk e
        have := (List.getElem?_eq_some_iff.mp hr).1
        have cl : (comp W ds lk).length ≤ 64 := by
          rw [comp_len]
          have := flat_len ok
          omega
        exact sml_int ⟨by omega, by omega⟩
      refine ⟨?_, ?_⟩
      · show sml (.tuple [.str "def", .tuple (d.h.params.map .str), .tuple ((numsOf d).map .str), .tuple (d.h.rows.map .str), .int (firstOf ds d)]) = true
        simp only [sml, smls] at k5 ⊢
        rw [k1, k2, k3, k4, k5]; rfl
      · show nodes (.tuple [.str "def", .tuple (d.h.params.map .str), .tuple ((numsOf d).map .str), .tuple (d.h.rows.map .str), .int (firstOf ds d)]) ≤ 40
        have := nodess_strs d.h.params
        have := nodess_strs (numsOf d)
        have := nodess_strs d.h.rows
        simp only [nodes, nodess]
        omega
    · obtain ⟨k, rfl⟩ : ∃ k, i = 1 + ds.length + k := ⟨i - (1 + ds.length), by omega⟩
      rw [comp_row] at hi
      obtain ⟨q, hq, er⟩ := Option.map_eq_some_iff.mp hi
      obtain ⟨l1, d, l2, j, s, e, _, h, rfl⟩ := flat_split ds k q hq
      subst er
      obtain ⟨a, b⟩ := row_sml ok lk e h
      exact ⟨a, by show nodes (rowOf ds lk d s).d ≤ 40; omega⟩
theorem code_fit (ok : ProgOk W ds) (lk : Str × Int → Bool) : Fit (.list ((comp W ds lk).map CR.d)) := by
  have cl : (comp W ds lk).length ≤ 64 := by
    rw [comp_len]
    have := flat_len ok
    have := ds_len ok
    omega
  have a := cr_sml ok lk
  refine ⟨?_, ?_, ?_⟩
  · show smls _ = true
    exact smls_map _ _ fun c hc => (a c hc).1
  · have := depthAll_map CR.d 40 (comp W ds lk) fun c hc => Nat.le_trans (sml_depth (a c hc).1) (a c hc).2
    simp only [PyData.depth]; omega
  · have := nodess_map CR.d 40 (comp W ds lk) fun c hc => (a c hc).2
    simp only [nodes]; omega
theorem nodes_int (i : Int) : nodes (.int i) = 1 := rfl
theorem fin_fit (ok : ProgOk W ds) (lk : Str × Int → Bool) {most : Int} (hm : 0 ≤ most ∧ most ≤ 1000) {f : Fin} (F : FinOk (comp W ds lk) W most f) : Fit f.d := by
  have hW := ok.w
  have he : sml f.e = true ∧ nodes f.e ≤ 6 := by
    rcases F.e with ⟨y, r, hy, hr, e⟩ | ⟨v, v1, v2, e⟩
    · rw [e]
      have a := (cr_sml ok lk _ hr).1
      have a : sml r.d = true := a
      have hp : sml (placeD r.lab) = true := by
        unfold Row.d at a
        have a : smls [.str r.act.kind, placeD r.lab, .bool r.look, .tuple r.act.parts, .int r.on] = true := a
        simp only [smls, Bool.and_eq_true] at a
        exact a.2.1
      refine ⟨?_, by simp [nodes, nodess, placeD]⟩
      have k1 : okS "fault" = true := okS_w (by simp)
      show smls [.str "fault", .str y, placeD r.lab] = true
      simp only [smls, sml, k1, okS_why hy, hp, Bool.and_self]
    · rw [e]
      have k1 : okS "back" = true := okS_w (by simp)
      refine ⟨?_, by simp [nodes, nodess]⟩
      have k2 : sml (.int v) = true := sml_int (by omega)
      show smls [.str "back", .int v] = true
      simp only [smls, sml] at k2 ⊢
      simp only [k1, k2, Bool.and_self]
  have h1 : smls (f.told.map PyData.int) = true := smls_map _ _ fun v hv => sml_int (by have := F.tv v hv; omega)
  have h2 : nodess (f.told.map PyData.int) ≤ 1 * f.told.length := nodess_map _ 1 _ fun v _ => Nat.le_refl _
  have h3 := F.tl
  have h4 : sml (.int f.many) = true := sml_int (by have := F.many; omega)
  have h5 : sml (.int f.looks) = true := sml_int (by have := F.looks; omega)
  have s0 : sml f.d = true := by
    show smls [.tuple (f.told.map .int), f.e, .int f.many, .int f.looks] = true
    have h6 : sml (.tuple (f.told.map PyData.int)) = true := h1
    simp only [smls, h6, he.1, h4, h5, Bool.and_self]
  refine ⟨s0, ?_, ?_⟩
  · have a := depthAll_map PyData.int 0 f.told fun v _ => Nat.le_refl _
    have b := sml_depth he.1
    have := he.2
    show PyData.depth (.tuple [.tuple (f.told.map .int), f.e, .int f.many, .int f.looks]) ≤ 60
    simp only [PyData.depth, PyData.depthAll]; omega
  · have := he.2
    show nodes (.tuple [.tuple (f.told.map .int), f.e, .int f.many, .int f.looks]) ≤ 100000
    simp only [nodes, nodess]; omega
/-- what is told where no step may be begun -/
theorem runs_zero (ok : ProgOk W ds) (lk : Str × Int → Bool) (ws : List Int) {d : Df} (hd : d ∈ ds) (hn : d.h.name = "main") {s0 : Int × PA} {sr : List (Int × PA)} (hs : d.steps = s0 :: sr) :
    runs (comp W ds lk) ws 0 = ⟨[], .tuple [.str "fault", .str "steps", placeD ("main", s0.1)], 0, 0⟩ := by
  obtain ⟨l1, l2, e⟩ := List.append_of_mem hd
  have h0 : d.steps[0]? = some s0 := by rw [hs]; rfl
  have hnum := num_at ok e h0
  have hf : (flatS ds)[(flatS l1).length + 0]? = some (d, s0) := by rw [e]; exact flat_at h0
  have efirst : firstOf ds d = numOf ds (d.h.name, s0.1) := by unfold firstOf; rw [hs]; rfl
  -- main's head
  have hmi := main_in ok
  obtain ⟨hi1, hi2⟩ := idx_lt hmi
  rw [List.length_map] at hi1
  have hhd : (comp W ds lk)[1 + idx ("main" : Str) (ds.map (·.h.name))]? = some (.hd (hdOf d (firstOf ds d))) := by
    rw [comp_head W ds lk hi1]
    rw [List.getElem?_map, List.getElem?_eq_getElem hi1] at hi2
    have e3 : (ds[idx ("main" : Str) (ds.map (·.h.name))]).h.name = "main" := by simpa using hi2
    have := name_inj ok (List.getElem_mem hi1) hd (e3.trans hn.symm)
    rw [this]
  have hst : startAt (comp W ds lk) = headNo ds "main" := rfl
  have hhA : headAt (comp W ds lk) (startAt (comp W ds lk)) = hdOf d (firstOf ds d) := by
    unfold headAt
    have et : (startAt (comp W ds lk)).toNat = 1 + idx ("main" : Str) (ds.map (·.h.name)) := by rw [hst]; unfold headNo; omega
    rw [et, hhd]
  have hat : (begin_ (comp W ds lk) ws).cur.at_ = firstOf ds d := by
    unfold begin_
    rw [hhA]; rfl
  have hrow : rowAt (comp W ds lk) (firstOf ds d) = some (rowOf ds lk d s0) := by
    unfold rowAt
    have et : (firstOf ds d).toNat = 1 + ds.length + ((flatS l1).length + 0) := by rw [efirst]; omega
    rw [et, comp_row, hf]; rfl
  have hm0 : (begin_ (comp W ds lk) ws).many = 0 := rfl
  have e5 : step (comp W ds lk) (wideOf (comp W ds lk)) 0 (begin_ (comp W ds lk) ws) = (begin_ (comp W ds lk) ws).end_ (.tuple [.str "fault", .str "steps", placeD (rowOf ds lk d s0).lab]) := by
    unfold step
    rw [hat, hrow]
    exact if_pos hm0
  have e6 : placeD (rowOf ds lk d s0).lab = placeD ("main", s0.1) := by unfold rowOf; rw [hn]
  unfold runs
  show runN _ _ _ (0 + 1) _ = _
  unfold runN
  rw [e5, e6]
  rfl
end
end B72


set_option Elab.async false
set_option linter.all false
set_option maxRecDepth 100000
set_option maxHeartbeats 400000
/-! C30: what is told anew is known; the programs of the law. -/
namespace B72
open PySem L2 Evl R72 PyProof.Rows
section
variable {K : PySem.W.Frag} {w : World} {G G' H H' : Hp} {M : List (Addr × HO)} {t : Addr} {n : Nat} {Q : VK} {E : XK} {σ : L2.St} {D : Ends} {v u : V}
/-- not a tuple, nor one that is known -/
def NT (o : HO) : Prop := ∀ xs, o ≠ .tup xs ∧ ∀ b, o ≠ .frz b (.tup xs)
theorem st_hide {as : List Addr} (ha : ∀ a ∈ as, ∃ o, H a = some o ∧ NT o) {a : Addr} {xs : List V} (hs : SqT K H a xs) : SqT K (hide as H) a xs := by
  rcases hs with hs | hs
  · left
    have key : ∀ o, H a = some o → ¬ NT o → hide as H a = some o := by
      intro o ho hn
      unfold hide
      rw [if_neg]
      · exact ho
      · intro hm
        obtain ⟨o', h1, h2⟩ := ha a hm
        rw [ho] at h1
        cases h1
        exact hn h2
    rcases hs with hs | ⟨o, hs⟩
    · exact .inl (key _ hs fun q => (q xs).1 rfl)
    · exact .inr ⟨o, key _ hs fun q => (q xs).2 o rfl⟩
  · right; exact hs
mutual
theorem dp_hide {as : List Addr} (ha : ∀ a ∈ as, ∃ o, H a = some o ∧ NT o) : ∀ (d : PyData) {v : V}, noL d = true → Dp K H v d → Dp K (hide as H) v d
  | .none, _, _, h => by cases h; exact .non
  | .bool b, _, _, h => by cases h; exact .bl b
  | .int i, _, _, h => by cases h; exact .int i
  | .str x, _, _, h => by cases h; exact .str x
  | .list ds, _, n, _ => by simp [noL] at n
  | .tuple ds, _, n, h => by
    cases h with
    | tup hs hd => exact .tup (st_hide ha hs) (dpAll_hide ha ds (by simpa [noL] using n) hd)
  | .dict _, _, _, h => by cases h
theorem dpAll_hide {as : List Addr} (ha : ∀ a ∈ as, ∃ o, H a = some o ∧ NT o) : ∀ (ds : List PyData) {vs : List V}, noLs ds = true → DpAll K H vs ds → DpAll K (hide as H) vs ds
  | [], _, _, h => by cases h; exact .nil
  | d :: ds, _, n, h => by
    have n : noL d = true ∧ noLs ds = true := by simpa [noLs] using n
    cases h with
    | cons a b => exact .cons (dp_hide ha d n.1 a) (dpAll_hide ha ds n.2 b)
end
/-- what a def that only adds has told is known from then on -/
theorem Gn.learn (K : PySem.W.Frag) (g : Gn G M t n H) (hM : ∀ x ∈ M, NT x.2) (e : Ex H H') : ∃ G', Ex G G' ∧ Gn G' M t n H' ∧ Ex G' H' ∧ (∀ a o, H a = none → H' a = some o → G' a = some o) ∧ (∀ a xs, SqT K H' a xs → SqT K G' a xs) ∧
    (∀ d v, noL d = true → Dp K H' v d → Dp K G' v d) ∧ ∀ ds vs, noLs ds = true → DpAll K H' vs ds → DpAll K G' vs ds := by
  obtain ⟨a, b, c, h, r⟩ := g
  have h2 := h.grow e
  obtain ⟨m1, m2⟩ := h2.most
  have ha : ∀ x ∈ ((t, HO.lst [.int a, .int b, .int c]) :: M).map (·.1), ∃ o, H' x = some o ∧ NT o := by
    intro x hx
    obtain ⟨y, hy, ey⟩ := List.mem_map.mp hx
    have hy2 := h2.cl y hy
    rw [ey] at hy2
    refine ⟨y.2, hy2, ?_⟩
    rcases List.mem_cons.mp hy with z | z
    · subst z
      exact fun xs => ⟨fun q => (by cases q), fun b q => (by cases q)⟩
    · exact hM y z
  refine ⟨_, m2, ⟨a, b, c, m1, r⟩, m1.ex, fun x o hx hx' => ?_, fun x xs hs => st_hide ha hs, fun d v hn hd => dp_hide ha d hn hd, fun ds vs hn hd => dpAll_hide ha ds hn hd⟩
  unfold hide
  rw [if_neg]
  · exact hx'
  · intro hm
    obtain ⟨y, hy, ey⟩ := List.mem_map.mp hm
    have := h.cl y hy
    rw [ey, hx] at this
    cases this
/-- the law's programs -/
def PsOk (ps : List (Int × List Df)) : Prop := ∀ p ∈ ps, ProgOk p.1 p.2
def PsF (K : PySem.W.Frag) (H : Hp) (vs : List V) (ps : List (Int × List Df)) : Prop := Paired (fun v p => PgF K H v p.1 p.2) vs ps
theorem PsF.ex {vs : List V} {ps : List (Int × List Df)} (h : PsF K H vs ps) (e : Ex H H') : PsF K H' vs ps := Paired.imp (fun _ _ z => z.ex e) h
theorem l_programs {rest : List (Option V)} {sc : V} (g : Gn G [] t n H) (hn : n ≤ 100000)
    (k : ∀ G' H' p vs ps, Ex G G' → Gn G' [] t (n + 5000) H' → G' p = some (.lst vs) → PsF K G' vs ps → PsOk ps → ps.length = 2 → Q (.ref p) H') :
    tLc (iRng1 (tCons (tC (.int (2))) tNil)) (gName 2) tYes (tCall (sp__law_program K w) [] C8.E0 (tCons (tVar 1) (tCons (tLst (tCons (tC (.int (1))) (tCons (tC (.int (2))) (tCons (tC (.int (3))) (tCons (tC (.int (6))) (tCons (tC (.int (31))) tNil)))))) (tCons (tC (.int (8))) tNil)))) [2]
      (some sc :: some (.ref t) :: none :: rest) H Q := by
  refine u_lc (u_rng1 (u_cons (pv_c _ (pa_nil _ ⟨_, rfl, by decide, by decide, fun Dl hDl => ?_⟩))))
  have g1 := g.new (o := .lst []) hDl
  refine lc_range (lo := 0) (n := 2) (fun i H' => ∃ (G' : Hp) (vs : List V) (ps : List (Int × List Df)), Ex G G' ∧ Gn G' ([] ++ [(Dl, .lst vs)]) t (n + 2001 * i) H' ∧ PsF K G' vs ps ∧ ps.length = i ∧ PsOk ps)
    ⟨G, [], [], Ex.refl _, g1, .nil, rfl, fun p hp => (by cases hp)⟩ (fun i H' hi q => ?_) fun H' q => ?_
  · obtain ⟨G', vs, ps, e, g', q1, q2, q3⟩ := q
    refine ⟨rfl, u_yes ?_⟩
    refine u_call (u_cons (pv_var (v := .ref t) rfl _ (u_cons ?_)))
    refine t_lst (pa_cons pv_c (pa_cons pv_c (pa_cons pv_c (pa_cons pv_c (pa_cons pv_c pa_nil))))) (by show 5 ≤ 100000; decide) fun p2 hp2 => ?_
    obtain ⟨g2, e2, h2⟩ := g'.addG (o := .lst [.int 1, .int 2, .int 3, .int 6, .int 31]) hp2
    refine u_cons (pv_c _ (pa_nil _ ?_))
    refine s_program g2 (by omega) h2 fun G3 H3 p3 W ds e3 g3 d3 ok => ?_
    have hv : vs.length = i := by rw [Paired.len q1, q2]
    refine ⟨vs, g3.at (p := Dl) (o := .lst vs) (by simp), sz_lt (by omega), G3, vs ++ [.ref p3], ps ++ [(W, ds)], e.trans (e2.trans e3), (g3.chg (p := Dl) (o := .lst vs) (o' := .lst (vs ++ [.ref p3])) [] (c2 := []) rfl).up (by omega), ?_, by rw [List.length_append, q2]; rfl, fun p hp => ?_⟩
    · exact Paired.snoc (q1.ex (e2.trans e3)) d3
    · rcases List.mem_append.mp hp with z | z
      · exact q3 p z
      · rw [List.mem_singleton.mp z]; exact ok
  · obtain ⟨G', vs, ps, e, g', q1, q2, q3⟩ := q
    obtain ⟨g6, e6⟩ := Gn.freeze (M1 := []) (M2 := []) g'
    exact k _ _ Dl vs ps (e.trans e6) (g6.up (by omega)) upd_same (q1.ex e6) q3 q2
end
end B72


set_option Elab.async false
set_option linter.all false
set_option maxRecDepth 100000
set_option maxHeartbeats 400000
/-! C31: looks drawn. -/
namespace B72
open PySem L2 Evl R72 PyProof.Rows
section
variable {K : PySem.W.Frag} {w : World} {G G' H H' : Hp} {M : List (Addr × HO)} {t : Addr} {n : Nat} {Q : VK} {E : XK} {σ : L2.St} {D : Ends} {v u : V} {ds : List Df} {W : Int}
def OutsOk (ds : List Df) (outs : List (Str × Int)) : Prop := ∀ q ∈ outs, q ∈ places ds
theorem l_out (P : PF K w) (PWk : PW K) (ok : ProgOk W ds) (g : Gn G M t n H) (hM : ∀ x ∈ M, NT x.2) (hn : n ≤ 400000) {pv : V} (hp : PgF K G pv W ds) {x0 x2 x3 x4 x6 x7 x8 x9 x10 x11 x12 x13 x14 x15 x16 : Option V}
    (k : ∀ G' H' p us outs, Ex G G' → Gn G' M t (n + 1000) H' → G' p = some (.lst us) → DpAll K G' us (outs.map placeD) → OutsOk ds outs → us.length ≤ 1000 → Q (.ref p) H') :
    tLc (iSeqX K (tCall (sp_looks K w) [] C8.E0 (tCons (tVar 5) tNil))) (gTup K 2 (gCons (gName 17) (gCons (gName 18) gNil))) (tTest (tOp (rEqX K) (tCall (sp__law_draw K w) [] C8.E0 (tCons (tVar 1) (tCons (tC (.int (2))) tNil))) (tC (.int (0))))) (tVar 17) [17, 18]
      [x0, some (.ref t), x2, x3, x4, some pv, x6, x7, x8, x9, x10, x11, x12, x13, x14, x15, x16, none, none] H Q := by
  refine u_lc (u_iseq ?_)
  refine t_call (pa_cons (pv_var (v := pv) rfl) pa_nil) (s_looks P PWk ok (hp.ex g.ex) fun p1 H1 ts hp1 e1 h1 hl1 hL => ?_)
  obtain ⟨G1, eG1, g1, eg1, L1, L2, L3, L4⟩ := g.learn K hM e1
  have h1G := L1 p1 _ hp1 h1
  refine ⟨p1, rfl, .inl ⟨ts, sq_of h1, fun Dl hDl => ?_⟩⟩
  have g2 := g1.new (o := .lst []) hDl
  refine lc_list (xs := ts) (fun i H' => ∃ (G' : Hp) (us : List V) (outs : List (Str × Int)), Ex G1 G' ∧ Gn G' (M ++ [(Dl, .lst us)]) t (n + i) H' ∧ DpAll K G' us (outs.map placeD) ∧ OutsOk ds outs ∧ us.length ≤ i)
    ⟨G1, [], [], Ex.refl _, g2, .nil, fun q hq => (by cases hq), Nat.le_refl _⟩ (fun i H' _ q => ?_) (fun i x H' hx q => ?_) fun H6 q => ?_
  · obtain ⟨G', us, outs, e, g', _⟩ := q
    exact sq_of (g'.ex _ _ (e _ _ h1G))
  · obtain ⟨G', us, outs, e, g', q1, q2, q3⟩ := q
    have hi : i < ts.length := (List.getElem?_eq_some_iff.mp hx).1
    obtain ⟨a, b, nm, l, y, rfl, h2, h3, h4⟩ := hL x (List.mem_of_getElem? hx)
    have h2 := ex_t e (L2 _ _ h2)
    have h3 := ex_t e (L2 _ _ h3)
    refine g_n2 (ex_t g'.ex h2) ⟨rfl, ?_⟩
    refine u_test (u_op (t_call (pa_cons (pv_var (v := .ref t) rfl) (pa_cons pv_c pa_nil)) (s_draw g' (by omega) (by decide) fun H8 d g8 d0 d1 => ?_)))
    refine pv_c _ (pr_eq rfl _ ⟨_, rfl, ?_⟩)
    by_cases hz : V.int d = .int 0
    · rw [decide_eq_true hz]
      refine u_true (pv_var (v := .ref b) rfl _ ⟨us, g8.at (p := Dl) (o := .lst us) (by simp), sz_lt (by omega), G', us ++ [.ref b], outs ++ [(nm, l)], e, ?_, ?_, fun q hq => ?_, by rw [List.length_append]; simp only [List.length_singleton]; omega⟩)
      · exact (g8.chg (p := Dl) (o := .lst us) (o' := .lst (us ++ [.ref b])) M (c2 := []) rfl).up (m := n + (i + 1)) (by omega)
      · rw [List.map_append]
        exact dpAll_snoc q1 (.tup h3 (.cons (.str _) (.cons (.int _) .nil)))
      · rcases List.mem_append.mp hq with z | z
        · exact q2 q z
        · rw [List.mem_singleton.mp z]; exact h4
    · rw [decide_eq_false hz]
      exact u_false ⟨G', us, outs, e, g8.up (m := n + (i + 1)) (by omega), q1, q2, by omega⟩
  · obtain ⟨G', us, outs, e, g', q1, q2, q3⟩ := q
    obtain ⟨g6, e6⟩ := Gn.freeze (M2 := []) g'
    rw [List.append_nil] at g6
    exact k _ _ Dl us outs (eG1.trans (e.trans e6)) (g6.up (by omega)) upd_same (dpAll_ex e6 _ q1) q2 (by omega)
end
end B72


set_option Elab.async false
set_option linter.all false
set_option maxRecDepth 100000
set_option maxHeartbeats 400000
/-! C32: the results' list. -/
namespace B72
open PySem L2 Evl R72 PyProof.Rows
structure RS where
  W : Int
  ds : List Df
  outs : List (Str × Int)
def RS.d (r : RS) : PyData := .tuple [progD r.W r.ds, .list (r.outs.map placeD)]
def RS.Ok (r : RS) : Prop := ProgOk r.W r.ds ∧ OutsOk r.ds r.outs ∧ r.outs.length ≤ 1000
noncomputable def RS.cs (r : RS) : List CR := comp r.W r.ds fun pl => !decide (pl ∈ r.outs)
theorem paired_app {α β : Type} {R : α → β → Prop} {xs xs' : List α} {ys ys' : List β} (p : Paired R xs ys) (q : Paired R xs' ys') : Paired R (xs ++ xs') (ys ++ ys') := by
  induction p with
  | nil => exact q
  | cons h t ih => exact .cons h ih
section
variable {K : PySem.W.Frag} {w : World} {G G' H H' : Hp} {M : List (Addr × HO)} {t : Addr} {n : Nat} {Q : VK} {E : XK} {σ : L2.St} {D : Ends} {v u : V} {ds : List Df} {W : Int}
theorem nt_lst {xs : List V} : NT (.lst xs) := fun ys => ⟨fun q => (by cases q), fun b q => (by cases q)⟩
theorem nt_dT {xs : List (List Key × V)} : NT (.dT xs) := fun ys => ⟨fun q => (by cases q), fun b q => (by cases q)⟩
/-- .. as they lie -/
def RsF (K : PySem.W.Frag) (H : Hp) (v : V) (r : RS) : Prop := ∃ ra pv ov, v = .ref ra ∧ SqT K H ra [pv, ov] ∧ PgF K H pv r.W r.ds ∧ Dp K H ov (.list (r.outs.map placeD))
theorem RsF.ex {v : V} {r : RS} (h : RsF K H v r) (e : Ex H H') : RsF K H' v r := by
  obtain ⟨ra, pv, ov, rfl, h1, h2, h3⟩ := h
  exact ⟨ra, pv, ov, rfl, ex_t e h1, h2.ex e, dp_ex e _ h3⟩
theorem RsF.dp {v : V} {r : RS} (h : RsF K H v r) : Dp K H v r.d := by
  obtain ⟨ra, pv, ov, rfl, h1, h2, h3⟩ := h
  exact .tup h1 (.cons h2.dp (.cons h3 .nil))
def RssF (K : PySem.W.Frag) (H : Hp) (vs : List V) (rs : List RS) : Prop := Paired (RsF K H) vs rs
theorem RssF.ex {vs : List V} {rs : List RS} (h : RssF K H vs rs) (e : Ex H H') : RssF K H' vs rs := Paired.imp (fun _ _ z => z.ex e) h
theorem RssF.dp {vs : List V} {rs : List RS} (h : RssF K H vs rs) : DpAll K H vs (rs.map RS.d) := by
  unfold RssF at h
  induction h with
  | nil => exact .nil
  | cons a b ih => exact .cons a.dp ih
theorem l_results (P : PF K w) (PWk : PW K) {pl rl : Addr} {pvs : List V} {ps : List (Int × List Df)} (g : Gn G [(rl, .lst [])] t n H) (hn : n ≤ 200000) (hpl : G pl = some (.lst pvs)) (hps : PsF K G pvs ps) (pok : PsOk ps) (pln : ps.length = 2) {x0 x2 : Option V}
    (k : ∀ (G' H' : Hp) (o5 o6 : Option V) (rvs : List V) (rs : List RS), Ex G G' → Gn G' [] t (n + 3000) H' → G' rl = some (.lst rvs) → RssF K G' rvs rs → (∀ r ∈ rs, r.Ok) → rs.length = 4 →
      D.nx [x0, some (.ref t), x2, some (.ref pl), some (.ref rl), o5, o6, none, none, none, none, none, none, none, none, none, none, none, none] H') :
    tFor (iSeqX K (tVar 3)) (gName 5) (tSeq (tAsg (tLc (iSeqX K (tCall (sp_looks K w) [] C8.E0 (tCons (tVar 5) tNil))) (gTup K 2 (gCons (gName 17) (gCons (gName 18) gNil))) (tTest (tOp (rEqX K) (tCall (sp__law_draw K w) [] C8.E0 (tCons (tVar 1) (tCons (tC (.int (2))) tNil))) (tC (.int (0))))) (tVar 17) [17, 18]) (gName 6)) (tDrop (tBM K "list" (rExtendX K) (tVar 4) (tCons (tLst (tCons (tTup (tCons (tVar 5) (tCons (tLst tNil) tNil))) (tCons (tTup (tCons (tVar 5) (tCons (tVar 6) tNil))) tNil))) tNil)))) D
      [x0, some (.ref t), x2, some (.ref pl), some (.ref rl), none, none, none, none, none, none, none, none, none, none, none, none, none, none] H := by
  have hpv : pvs.length = 2 := by rw [Paired.len hps, pln]
  refine f_L (a := pl) (xs := pvs) (pv_var (v := .ref pl) rfl) (sq_of (g.ex _ _ hpl)) (fun i σ' H' => ∃ (o5 o6 : Option V) (G' : Hp) (rvs : List V) (rs : List RS), σ' = [x0, some (.ref t), x2, some (.ref pl), some (.ref rl), o5, o6, none, none, none, none, none, none, none, none, none, none, none, none] ∧ Ex G G' ∧ Gn G' [(rl, .lst rvs)] t (n + 1001 * i) H' ∧ RssF K G' rvs rs ∧ (∀ r ∈ rs, r.Ok) ∧ rs.length = 2 * i)
    ⟨none, none, G, [], [], rfl, Ex.refl _, g, .nil, fun r hr => (by cases hr), rfl⟩ (fun i σ' H' _ q => ?_) (fun i x σ' H' hx q => ?_) fun σ' H' q => ?_
  · obtain ⟨o5, o6, G', rvs, rs, _, e, g', _⟩ := q
    exact sq_of (g'.ex _ _ (e _ _ hpl))
  · obtain ⟨o5, o6, G', rvs, rs, rfl, e, g', q1, q2, q3⟩ := q
    have hi : i < pvs.length := (List.getElem?_eq_some_iff.mp hx).1
    have hpi : ps[i]? = some ps[i] := List.getElem?_eq_getElem (by omega)
    obtain ⟨p', hp', dx⟩ := paired_get hps hx
    rw [hpi] at hp'
    cases hp'
    have hok := pok ps[i] (List.getElem_mem (by omega))
    generalize ps[i] = p at dx hok
    dsimp only [gName]
    refine u_seq (u_asg (l_out (W := p.1) (ds := p.2) P PWk hok g' (fun y hy => by rw [List.mem_singleton.mp hy]; exact nt_lst) (by omega) (dx.ex e) fun G2 H2 po us outs e2 g2 hpo hus ho hul => ?_))
    dsimp only [gName]
    have dx2 := dx.ex (e.trans e2)
    refine u_drop (u_bm (pv_var (v := .ref rl) rfl _ ⟨.inl ⟨rfl, _, sq_of (g2.at (p := rl) (o := .lst rvs) (by simp))⟩, u_cons (u_lst (u_cons (u_tup (u_cons (pv_var rfl _ (u_cons ?_))))))⟩))
    refine t_lst pa_nil (by decide) fun p3 hp3 => ?_
    obtain ⟨g3, e3, h3⟩ := g2.addG (o := .lst []) hp3
    refine pa_nil _ ⟨sz_of (by show 2 ≤ 100000; decide), fun p4 hp4 => ?_⟩
    obtain ⟨g4, e4, h4⟩ := g3.addG (o := .tup [x, .ref p3]) hp4
    refine u_cons (t_tup (pa_cons (pv_var rfl) (pa_cons (pv_var rfl) pa_nil)) (by show 2 ≤ 100000; decide) fun p5 hp5 => ?_)
    obtain ⟨g5, e5, h5⟩ := g4.addG (o := .tup [x, .ref po]) hp5
    refine pa_nil _ ⟨sz_of (by show 2 ≤ 100000; decide), fun p6 hp6 => ?_⟩
    obtain ⟨g6, e6, h6⟩ := g5.addG (o := .lst [.ref p4, .ref p5]) hp6
    have hrl := g6.at (p := rl) (o := .lst rvs) (by simp)
    have hrv : rvs.length = 2 * i := by rw [Paired.len q1, q3]
    refine pa_nil _ ⟨rl, p6, rvs, [.ref p4, .ref p5], rfl, rfl, hrl, .inl (g6.ex _ _ h6), sz_of (by rw [hrv]; show 2 * i + 2 ≤ 100000; omega), ?_⟩
    have e46 := e4.trans (e5.trans e6)
    have e26 := e3.trans e46
    refine ⟨_, _, _, rvs ++ [V.ref p4, V.ref p5], rs ++ [⟨p.1, p.2, []⟩, ⟨p.1, p.2, outs⟩], rfl, e.trans (e2.trans e26), (g6.chg (p := rl) (o := .lst rvs) (o' := .lst (rvs ++ [V.ref p4, V.ref p5])) [] (c2 := []) rfl).up (m := n + 1001 * (i + 1)) (by omega), ?_, fun r hr => ?_, by rw [List.length_append, q3]; show 2 * i + 2 = _; omega⟩
    · refine paired_app (q1.ex (e2.trans e26)) (.cons ⟨p4, x, .ref p3, rfl, st_of ((e5.trans e6) _ _ h4), dx2.ex e26, .lst (sq_of (e46 _ _ h3)) .nil⟩ (.cons ⟨p5, x, .ref po, rfl, st_of (e6 _ _ h5), dx2.ex e26, .lst (sq_of (e26 _ _ hpo)) (dpAll_ex e26 _ hus)⟩ .nil))
    · rcases List.mem_append.mp hr with z | z
      · exact q2 r z
      · have hol : outs.length ≤ 1000 := by have := dpAll_len hus; rw [List.length_map] at this; omega
        rcases List.mem_cons.mp z with z | z
        · rw [z]; exact ⟨hok, fun q hq => (by cases hq), Nat.zero_le _⟩
        · rw [List.mem_singleton.mp z]; exact ⟨hok, ho, hol⟩
  · obtain ⟨o5, o6, G', rvs, rs, rfl, e, g', q1, q2, q3⟩ := q
    obtain ⟨g6, e6⟩ := Gn.freeze (M1 := []) (M2 := []) g'
    exact k _ _ o5 o6 rvs rs (e.trans e6) (g6.up (by omega)) upd_same (q1.ex e6) q2 (by omega)
end
end B72


set_option Elab.async false
set_option linter.all false
set_option maxRecDepth 100000
set_option maxHeartbeats 400000
/-! C33: the rows made of each. -/
namespace B72
open PySem L2 Evl R72 PyProof.Rows
noncomputable def RS.cd (r : RS) : PyData := .list (r.cs.map CR.d)
section
variable {K : PySem.W.Frag} {w : World} {G G' H H' : Hp} {M : List (Addr × HO)} {t : Addr} {n : Nat} {Q : VK} {E : XK} {σ : L2.St} {D : Ends} {v u : V} {ds : List Df} {W : Int}
theorem t_callN {a m : Nat} {sp : Sp} {gV : List V → List V → List V} {ta tk : TA} {vs zs : List V} (h : Pa ta σ H vs) (h2 : Pa tk σ H zs) (l1 : vs.length = a) (l2 : zs.length = m) (kk : sp (gV vs zs) H Q E) : tCallN a m sp gV E ta tk σ H Q := h _ (h2 _ ⟨l1, l2, kk⟩)
theorem outs_ok (ok : ProgOk W ds) {outs : List (Str × Int)} (o : OutsOk ds outs) : ∀ p ∈ outs, PyData.strOk p.1 = true := by
  intro p hp
  obtain ⟨_, d, hd, e, _⟩ := mem_place (nm := p.1) (l := p.2) (o p hp)
  rw [← e]
  exact name_ok ok hd
theorem l_codes (P : PF K w) (PWk : PW K) {rl cl : Addr} {rvs : List V} {rs : List RS} (g : Gn G [(cl, .lst [])] t n H) (hn : n ≤ 200000) (hrl : G rl = some (.lst rvs)) (hrs : RssF K G rvs rs) (rok : ∀ r ∈ rs, r.Ok) (rln : rs.length = 4) {x0 x2 x3 o5 o6 : Option V}
    (k : ∀ (G' H' : Hp) (o5 o6 o8 : Option V) (cvs : List V), Ex G G' → Gn G' [] t (n + 5000) H' → G' cl = some (.lst cvs) → DpAll K G' cvs (rs.map RS.cd) →
      D.nx [x0, some (.ref t), x2, x3, some (.ref rl), o5, o6, some (.ref cl), o8, none, none, none, none, none, none, none, none, none, none] H') :
    tFor (iSeqX K (tVar 4)) (gTup K 2 (gCons (gName 5) (gCons (gName 6) gNil))) (tSeq (tAsg (tCB (rLisX K) (tCons (tVar 6) tNil)) (gName 8)) (tSeq (tDrop (tBM K "list" rAppend (tVar 7) (tCons (tCallN 1 1 (sp_compiled K w) (kb_compiled_1_left_out K) C8.E0 (tCons (tVar 5) tNil) (tCons (tVar 8) tNil)) tNil))) (tSeq (tDrop (tBM0 K "list" rClear (tVar 8))) (tDrop (tBM K "list" (rExtendX K) (tVar 8) (tCons (tLc (iSeqX K (tCall (sp_looks K w) [] C8.E0 (tCons (tVar 5) tNil))) (gTup K 2 (gCons (gName 17) (gCons (gName 18) gNil))) (tTest (tOp (rEqX K) (tCall (sp__law_draw K w) [] C8.E0 (tCons (tVar 1) (tCons (tC (.int (2))) tNil))) (tC (.int (0))))) (tVar 17) [17, 18]) tNil)))))) D
      [x0, some (.ref t), x2, x3, some (.ref rl), o5, o6, some (.ref cl), none, none, none, none, none, none, none, none, none, none, none] H := by
  have hrv : rvs.length = 4 := by rw [Paired.len hrs, rln]
  refine f_L (a := rl) (xs := rvs) (pv_var (v := .ref rl) rfl) (sq_of (g.ex _ _ hrl)) (fun i σ' H' => ∃ (o5 o6 o8 : Option V) (G' : Hp) (cvs : List V), σ' = [x0, some (.ref t), x2, x3, some (.ref rl), o5, o6, some (.ref cl), o8, none, none, none, none, none, none, none, none, none, none] ∧ Ex G G' ∧ Gn G' [(cl, .lst cvs)] t (n + 1001 * i) H' ∧ DpAll K G' cvs ((rs.take i).map RS.cd))
    ⟨_, _, _, G, [], rfl, Ex.refl _, g, .nil⟩ (fun i σ' H' _ q => ?_) (fun i x σ' H' hx q => ?_) fun σ' H' q => ?_
  · obtain ⟨o5, o6, o8, G', cvs, _, e, g', _⟩ := q
    exact sq_of (g'.ex _ _ (e _ _ hrl))
  · obtain ⟨o5, o6, o8, G', cvs, rfl, e, g', q1⟩ := q
    have hi : i < rvs.length := (List.getElem?_eq_some_iff.mp hx).1
    have hri : rs[i]? = some rs[i] := List.getElem?_eq_getElem (by omega)
    obtain ⟨r', hr', dx⟩ := paired_get hrs hx
    rw [hri] at hr'
    cases hr'
    obtain ⟨rok1, rok2, rok3⟩ := rok rs[i] (List.getElem_mem (by omega))
    generalize hrr : rs[i] = r at hri dx rok1 rok2 rok3
    clear hrr
    obtain ⟨ra, pv, ov, rfl, hra, dpl, dov⟩ := dx
    obtain ⟨oa, us, rfl, hoa, dus⟩ := dp_lst dov
    have hul : us.length ≤ 1000 := by rw [dpAll_len dus, List.length_map]; exact rok3
    refine g_n2 (ex_t (e.trans g'.ex) hra) ?_
    refine u_seq (u_asg ?_)
    refine (?_ : tCons _ tNil _ _ _)
    refine u_cons (pv_var (v := .ref oa) rfl _ (pa_nil _ ⟨oa, us, rfl, .inl (ex_l (e.trans g'.ex) hoa), fun gl hgl => ?_⟩))
    have g2 := g'.new (o := .lst us) hgl
    dsimp only [gName]
    have NT2 : ∀ y ∈ ([(cl, .lst cvs)] ++ [(gl, .lst us)] : List (Addr × HO)), NT y.2 := fun y hy => by
      rcases List.mem_append.mp hy with z | z
      · rw [List.mem_singleton.mp z]; exact nt_lst
      · rw [List.mem_singleton.mp z]; exact nt_lst
    refine u_seq (u_drop (u_bm (pv_var (v := .ref cl) rfl _ ⟨.inl ⟨rfl, _, sq_of (g2.at (p := cl) (o := .lst cvs) (by simp))⟩, u_cons ?_⟩)))
    refine t_callN (pa_cons (pv_var (v := pv) rfl) pa_nil) (pa_cons (pv_var (v := .ref gl) rfl) pa_nil) rfl rfl ?_
    have hgl2 := g2.at (p := gl) (o := .lst us) (by simp)
    have OI2 : OI K (upd H' gl (.lst us)) gl r.outs := ⟨.inl (.lst (sq_of hgl2) (dpAll_ex (e.trans g2.ex) _ dus)), outs_ok rok1 rok2⟩
    refine s_compiled P PWk rok1 (dp_ex (e.trans g2.ex) _ dpl.dp) OI2 fun p3 H3 vs hp3 e3 h3 d3 => ?_
    obtain ⟨G3, eG3, g3, eg3, L1, L2, L3, L4⟩ := g2.learn K NT2 e3
    have h3G := L1 p3 _ hp3 h3
    have d3G := L4 _ _ (noLs_rows _) d3
    have hcl3 := g3.at (p := cl) (o := .lst cvs) (by simp)
    have hcv : cvs.length = i := by rw [dpAll_len q1, List.length_map, List.length_take]; omega
    refine pa_nil _ ⟨cl, cvs, .ref p3, rfl, rfl, hcl3, sz_lt (by omega), ?_⟩
    have g4 := g3.chg (p := cl) (o := .lst cvs) (o' := .lst (cvs ++ [.ref p3])) [] (c2 := [(gl, .lst us)]) rfl
    refine u_seq (u_drop (u_bm0 (pv_var (v := .ref gl) rfl _ ⟨.inl ⟨rfl, _, sq_of (g4.at (p := gl) (o := .lst us) (by simp))⟩, gl, us, rfl, rfl, g4.at (p := gl) (o := .lst us) (by simp), ?_⟩)))
    have g5 := g4.chg (p := gl) (o := .lst us) (o' := .lst []) [(cl, .lst (cvs ++ [.ref p3]))] (c2 := []) rfl
    refine u_drop (u_bm (pv_var (v := .ref gl) rfl _ ⟨.inl ⟨rfl, _, sq_of (g5.at (p := gl) (o := .lst []) (by simp))⟩, u_cons ?_⟩))
    refine l_out (W := r.W) (ds := r.ds) P PWk rok1 g5 (fun y hy => by
      rcases List.mem_append.mp hy with z | z
      · rw [List.mem_singleton.mp z]; exact nt_lst
      · rw [List.mem_singleton.mp z]; exact nt_lst) (by omega) (dpl.ex (e.trans eG3)) fun G6 H6 p6 us6 outs6 e6 g6 hp6 hus6 ho6 hul6 => ?_
    have hgl6 := g6.at (p := gl) (o := .lst []) (by simp)
    refine pa_nil _ ⟨gl, p6, [], us6, rfl, rfl, hgl6, .inl (g6.ex _ _ hp6), sz_of (by show 0 + us6.length ≤ 100000; omega), ?_⟩
    have g7 := g6.chg (p := gl) (o := .lst []) (o' := .lst ([] ++ us6)) [(cl, .lst (cvs ++ [.ref p3]))] (c2 := []) rfl
    have g8 := g7.sub (M' := [(cl, .lst (cvs ++ [.ref p3]))]) (List.sublist_append_left _ _)
    refine ⟨_, _, _, G6, cvs ++ [.ref p3], rfl, e.trans (eG3.trans e6), g8.up (m := n + 1001 * (i + 1)) (by omega), ?_⟩
    rw [List.take_succ, hri, show (some r).toList = [r] from rfl, List.map_append]
    exact dpAll_snoc (dpAll_ex (eG3.trans e6) _ q1) (.lst (sq_of (e6 _ _ h3G)) (dpAll_ex e6 _ d3G))
  · obtain ⟨o5, o6, o8, G', cvs, rfl, e, g', q1⟩ := q
    have et : rs.take rvs.length = rs := by rw [hrv, ← rln, List.take_length]
    rw [et] at q1
    obtain ⟨g6, e6⟩ := Gn.freeze (M1 := []) (M2 := []) g'
    exact k _ _ o5 o6 o8 cvs (e.trans e6) (g6.up (by omega)) upd_same (dpAll_ex e6 _ q1)
end
end B72


set_option Elab.async false
set_option linter.all false
set_option maxRecDepth 100000
set_option maxHeartbeats 400000
/-! C34: their texts, words handed in. -/
namespace B72
open PySem L2 Evl R72 PyProof.Rows
section
variable {K : PySem.W.Frag} {w : World} {G G' H H' : Hp} {M : List (Addr × HO)} {t : Addr} {n : Nat} {Q : VK} {E : XK} {σ : L2.St} {D : Ends} {v u : V} {ds : List Df} {W : Int}
noncomputable def keptV (rs : List RS) : List V := rs.map fun r => V.str (PyData.shown r.cd)
theorem rs_fit {r : RS} (ok : r.Ok) : Fit r.cd := code_fit ok.1 _
theorem l_kept {cl : Addr} {cvs : List V} {rs : List RS} (hcl : H cl = some (.lst cvs)) (hcv : DpAll K H cvs (rs.map RS.cd)) (rok : ∀ r ∈ rs, r.Ok) (rln : rs.length = 4) (h7 : (wipe σ [9])[7]? = some (some (.ref cl))) (h7' : σ[7]? = some (some (.ref cl))) (h9 : ∀ x, ((wipe σ [9]).set 9 (some x))[9]? = some (some x)) (hw : ∀ x, wipe ((wipe σ [9]).set 9 (some x)) [9] = wipe σ [9])
    (k : ∀ p H', H p = none → Ex H H' → H' p = some (.lst (keptV rs)) → Q (.ref p) H') :
    tLc (iSeqX K (tVar 7)) (gName 9) tYes (tCB (rReprX K) (tCons (tVar 9) tNil)) [9] σ H Q := by
  have hln : cvs.length = 4 := by rw [dpAll_len hcv, List.length_map, rln]
  refine u_lc (u_iseq (pv_var h7' _ ⟨cl, rfl, .inl ⟨cvs, sq_of hcl, fun Dl hDl => ?_⟩⟩))
  refine lc_list (xs := cvs) (fun i H' => Ex H H' ∧ H' Dl = some (.lst (keptV (rs.take i)))) ⟨Ex.new hDl, upd_same⟩ (fun i H' _ q => sq_of (q.1 _ _ hcl)) (fun i x H' hx q => ?_) fun H6 q => ?_
  · obtain ⟨e, h⟩ := q
    have hi : i < rs.length := by have := (List.getElem?_eq_some_iff.mp hx).1; omega
    have hri : rs[i]? = some rs[i] := List.getElem?_eq_getElem hi
    obtain ⟨x', hx', dx⟩ := dpAll_get hcv (i := i) (d := (rs[i]).cd) (by rw [List.getElem?_map, hri]; rfl)
    rw [hx] at hx'
    cases hx'
    have f := rs_fit (rok rs[i] (List.getElem_mem hi))
    refine ⟨hw x, u_yes (pv_repr f (pv_var (h9 x)) (ref_lst (dp_ex e _ dx)) (dp_ex e _ dx) _ ⟨_, h, ?_, e.mut hDl, ?_⟩)⟩
    · unfold keptV; rw [List.length_map, List.length_take]; exact sz_lt (by omega)
    · rw [upd_same, List.take_succ, hri, show (some rs[i]).toList = [rs[i]] from rfl]
      unfold keptV
      rw [List.map_append]; rfl
  · obtain ⟨e, h⟩ := q
    have et : rs.take cvs.length = rs := by rw [hln, ← rln, List.take_length]
    rw [et] at h
    exact k Dl H6 hDl e h
def wsD (hs : List (List Int)) : List PyData := hs.map fun ws => .tuple (ws.map .int)
theorem l_handed {x0 x2 x3 x4 x5 x6 x7 x8 x9 x10 x12 x13 x14 x15 x16 x17 x18 : Option V} (g : Gn G [] t n H) (hn : n ≤ 300000)
    (k : ∀ (G' H' : Hp) (p : Addr) (hvs : List V) (hs : List (List Int)), Ex G G' → Gn G' [] t (n + 200) H' → G' p = some (.lst hvs) → DpAll K G' hvs (wsD hs) → hs.length = 4 → (∀ ws ∈ hs, ws.length ≤ 6) → Q (.ref p) H') :
    tLc (iRng1 (tCons (tC (.int (4))) tNil)) (gName 11) tYes (tCall (sp__law_handed K w) [] C8.E0 (tCons (tVar 1) (tCons (tC (.int (1))) (tCons (tC (.int (6))) tNil)))) [11]
      [x0, some (.ref t), x2, x3, x4, x5, x6, x7, x8, x9, x10, none, x12, x13, x14, x15, x16, x17, x18] H Q := by
  refine u_lc (u_rng1 (u_cons (pv_c _ (pa_nil _ ⟨_, rfl, by decide, by decide, fun Dl hDl => ?_⟩))))
  have g1 := g.new (o := .lst []) hDl
  refine lc_range (lo := 0) (n := 4) (fun i H' => ∃ (G' : Hp) (hvs : List V) (hs : List (List Int)), Ex G G' ∧ Gn G' ([] ++ [(Dl, .lst hvs)]) t (n + 40 * i) H' ∧ DpAll K G' hvs (wsD hs) ∧ hs.length = i ∧ ∀ ws ∈ hs, ws.length ≤ 6)
    ⟨G, [], [], Ex.refl _, g1, .nil, rfl, fun p hp => (by cases hp)⟩ (fun i H' hi q => ?_) fun H' q => ?_
  · obtain ⟨G', hvs, hs, e, g', q1, q2, q3⟩ := q
    refine ⟨rfl, u_yes ?_⟩
    refine t_call (pa_cons (pv_var (v := .ref t) rfl) (pa_cons pv_c (pa_cons pv_c pa_nil))) (s_handed g' (by omega) fun G3 H3 p3 ws e3 g3 h3 _ hw6 => ?_)
    have hv : hvs.length = i := by rw [dpAll_len q1]; unfold wsD; rw [List.length_map, q2]
    refine ⟨hvs, g3.at (p := Dl) (o := .lst hvs) (by simp), sz_lt (by omega), G3, hvs ++ [.ref p3], hs ++ [ws], e.trans e3, (g3.chg (p := Dl) (o := .lst hvs) (o' := .lst (hvs ++ [.ref p3])) [] (c2 := []) rfl).up (m := n + 40 * (i + 1)) (by omega), ?_, by rw [List.length_append, q2]; rfl, fun p hp => ?_⟩
    · unfold wsD
      rw [List.map_append]
      exact dpAll_snoc (dpAll_ex e3 _ q1) (.tup (st_of h3) (dpAll_ints _))
    · rcases List.mem_append.mp hp with z | z
      · exact q3 p z
      · rw [List.mem_singleton.mp z]; exact hw6
  · obtain ⟨G', hvs, hs, e, g', q1, q2, q3⟩ := q
    obtain ⟨g6, e6⟩ := Gn.freeze (M1 := []) (M2 := []) g'
    exact k _ _ Dl hvs hs (e.trans e6) (g6.up (by omega)) upd_same (dpAll_ex e6 _ q1) q2 q3
end
end B72


set_option Elab.async false
set_option linter.all false
set_option maxRecDepth 100000
set_option maxHeartbeats 400000
/-! C35: runs of the law. -/
namespace B72
open PySem L2 Evl R72 PyProof.Rows
section
variable {K : PySem.W.Frag} {w : World} {G G' H H' : Hp} {M : List (Addr × HO)} {t : Addr} {n : Nat} {Q : VK} {E : XK} {σ : L2.St} {D : Ends} {v u : V} {ds : List Df} {W : Int}
theorem valV_put {κ : Type} [DecidableEq κ] (acc : List (κ × V)) (q k : κ) (x : V) : valV (putK acc q x) k = if q = k then some x else valV acc k := by
  unfold putK
  by_cases hany : (acc.any fun kv => decide (kv.1 = q)) = true
  · rw [if_pos hany]
    induction acc with
    | nil => simp at hany
    | cons e acc ih =>
      unfold valV at *
      by_cases y : e.1 = q
      · by_cases z : q = k
        · simp [y, z]
        · have z2 : ¬ e.1 = k := fun w => z (y ▸ w)
          simp only [List.map_cons, if_pos y, List.find?_cons, decide_eq_false z2, if_neg z]
          by_cases w : (acc.any fun kv => decide (kv.1 = q)) = true
          · have := ih w
            rw [if_neg z] at this
            exact this
          · have ea : acc.map (fun kv => if kv.1 = q then (kv.1, x) else kv) = acc := by
              conv => rhs; rw [← List.map_id acc]
              apply List.map_congr_left
              intro y hy
              have : ¬ y.1 = q := fun c => w (List.any_eq_true.mpr ⟨y, hy, decide_eq_true c⟩)
              rw [if_neg this]; rfl
            rw [ea]
      · have w : (acc.any fun kv => decide (kv.1 = q)) = true := by
          rw [List.any_cons, decide_eq_false y, Bool.false_or] at hany
          exact hany
        have := ih w
        simp only [List.map_cons, if_neg y, List.find?_cons]
        by_cases z : e.1 = k
        · have z2 : ¬ q = k := fun c => y (z.trans c.symm)
          simp [z, z2]
        · rw [decide_eq_false z]
          exact this
  · rw [if_neg hany]
    unfold valV
    rw [List.find?_append]
    cases hf : acc.find? fun kv => decide (kv.1 = k) with
    | none =>
      by_cases z : q = k
      · simp [z]
      · simp [z]
    | some e =>
      have h1 := List.find?_some hf
      have h2 := List.mem_of_find?_eq_some hf
      have h1 : e.1 = k := of_decide_eq_true h1
      have z : ¬ q = k := fun c => hany (List.any_eq_true.mpr ⟨e, h2, decide_eq_true (h1.trans c.symm)⟩)
      simp [z]
theorem len_putK {κ : Type} [DecidableEq κ] (acc : List (κ × V)) (q : κ) (x : V) : (putK acc q x).length ≤ acc.length + 1 := by
  unfold putK
  split
  · rw [List.length_map]; omega
  · rw [List.length_append]; exact Nat.le_refl _
theorem noLs_ints (l : List Int) : noLs (l.map PyData.int) = true := by
  induction l with
  | nil => rfl
  | cons x xs ih => simp [noLs, noL, ih]
theorem fin_noL {cs : List CR} {W most : Int} {f : Fin} (F : FinOk cs W most f) : noL f.d = true := by
  have he : noL f.e = true := by
    rcases F.e with ⟨y, r, _, _, e⟩ | ⟨v, _, _, e⟩
    · rw [e]; rfl
    · rw [e]; rfl
  simp [Fin.d, noL, noLs, noLs_ints, he]
theorem rs_code {r : RS} (ok : r.Ok) : CodeOk r.cs (tyOf r.ds) (wideOf r.cs) := code_ok ok.1 _
theorem l_run (P : PF K w) {r : RS} (ok : r.Ok) (g : Gn G M t n H) (hM : ∀ x ∈ M, NT x.2) {ca wl : Addr} {vals : List V} {ws : List Int} {b : Int} (C : CI K H ca vals r.cs) (hw : SqL K H wl (ws.map V.int) ∨ SqT K H wl (ws.map V.int)) (hwl : ws.length ≤ 6) (hb : 0 ≤ b ∧ b ≤ 1000)
    (k : ∀ G' H' v, Ex G G' → Gn G' M t n H' → Dp K G' v (runs r.cs ws b).d → Fit (runs r.cs ws b).d → Q v H') : sp_run_rows K w [.ref ca, .ref wl, .int b] H Q E := by
  refine s_run_rows P C (rs_code ok) hw (by omega) hb fun H' v e d F => ?_
  obtain ⟨G3, eG3, g3, eg3, L1, L2, L3, L4⟩ := g.learn K hM e
  exact k G3 H' v eG3 g3 (L3 _ _ (fin_noL F) d) (fin_fit ok.1 _ hb F)
/-- what the law has made ahead of the runs -/
structure LK (K : PySem.W.Frag) (G : Hp) (rl cl hl bl : Addr) (rvs cvs hvs : List V) (rs : List RS) (hs : List (List Int)) (bs : List Int) : Prop where
  hrl : G rl = some (.lst rvs)
  hrs : DpAll K G rvs (rs.map RS.d)
  rok : ∀ r ∈ rs, r.Ok
  rln : rs.length = 4
  hcl : G cl = some (.lst cvs)
  hcs : DpAll K G cvs (rs.map RS.cd)
  hhl : G hl = some (.lst hvs)
  hhs : DpAll K G hvs (wsD hs)
  hln : hs.length = 4
  hws : ∀ ws ∈ hs, ws.length ≤ 6
  hbl : G bl = some (.lst (bs.map V.int))
  bln : bs.length = 4
  hbs : ∀ b ∈ bs, 0 ≤ b ∧ b ≤ 1000
section
variable {rl cl hl bl : Addr} {rvs cvs hvs : List V} {rs : List RS} {hs : List (List Int)} {bs : List Int}
theorem LK.ex (L : LK K G rl cl hl bl rvs cvs hvs rs hs bs) (e : Ex G G') : LK K G' rl cl hl bl rvs cvs hvs rs hs bs :=
  ⟨e _ _ L.hrl, dpAll_ex e _ L.hrs, L.rok, L.rln, e _ _ L.hcl, dpAll_ex e _ L.hcs, e _ _ L.hhl, dpAll_ex e _ L.hhs, L.hln, L.hws, e _ _ L.hbl, L.bln, L.hbs⟩
theorem LK.res (L : LK K G rl cl hl bl rvs cvs hvs rs hs bs) {a : Int} (h0 : 0 ≤ a) (h4 : a < 4) : ∃ r va pv oa us, rs[a.toNat]? = some r ∧ r ∈ rs ∧ atI rvs a = some (.ref va) ∧ SqT K G va [pv, .ref oa] ∧ Dp K G pv (progD r.W r.ds) ∧ SqL K G oa us ∧ DpAll K G us (r.outs.map placeD) := by
  have hl := L.rln
  have hr : rs[a.toNat]? = some rs[a.toNat] := List.getElem?_eq_getElem (by omega)
  obtain ⟨x, hx, dx⟩ := dpAll_get L.hrs (i := a.toNat) (d := (rs[a.toNat]).d) (by rw [List.getElem?_map, hr]; rfl)
  have hlen := (List.getElem?_eq_some_iff.mp hx).1
  have hm : rs[a.toNat] ∈ rs := List.getElem_mem (by omega)
  generalize rs[a.toNat] = r at hr dx hm
  obtain ⟨ra, xs, rfl, hra, dxs⟩ := dp_tup dx
  obtain ⟨pv, xs, rfl, dpl, dxs⟩ := dpAll_cons dxs
  obtain ⟨ov, xs, rfl, dov, dxs⟩ := dpAll_cons dxs
  cases dpAll_nil dxs
  obtain ⟨oa, us, rfl, hoa, dus⟩ := dp_lst dov
  exact ⟨r, ra, pv, oa, us, hr, hm, by rw [atI_nat h0 (by omega)]; exact hx, hra, dpl, hoa, dus⟩
theorem LK.code (L : LK K G rl cl hl bl rvs cvs hvs rs hs bs) {a : Int} (h0 : 0 ≤ a) (h4 : a < 4) {r : RS} (hr : rs[a.toNat]? = some r) : ∃ ca vals, atI cvs a = some (.ref ca) ∧ CI K G ca vals r.cs := by
  obtain ⟨x, hx, dx⟩ := dpAll_get L.hcs (i := a.toNat) (d := r.cd) (by rw [List.getElem?_map, hr]; rfl)
  have hlen := (List.getElem?_eq_some_iff.mp hx).1
  obtain ⟨ca, vals, rfl, h1, h2⟩ := dp_lst dx
  exact ⟨ca, vals, by rw [atI_nat h0 (by omega)]; exact hx, h1, h2⟩
theorem LK.words (L : LK K G rl cl hl bl rvs cvs hvs rs hs bs) {a : Int} (h0 : 0 ≤ a) (h4 : a < 4) : ∃ ws wa, hs[a.toNat]? = some ws ∧ ws.length ≤ 6 ∧ atI hvs a = some (.ref wa) ∧ SqT K G wa (ws.map V.int) := by
  have hl := L.hln
  have hr : hs[a.toNat]? = some hs[a.toNat] := List.getElem?_eq_getElem (by omega)
  obtain ⟨x, hx, dx⟩ := dpAll_get L.hhs (i := a.toNat) (d := .tuple (hs[a.toNat].map .int)) (by unfold wsD; rw [List.getElem?_map, hr]; rfl)
  have hlen := (List.getElem?_eq_some_iff.mp hx).1
  obtain ⟨wa, vs, rfl, h1, h2⟩ := dp_tup dx
  rw [ints_of h2] at h1
  exact ⟨_, wa, hr, L.hws _ (List.getElem_mem (by omega)), by rw [atI_nat h0 (by omega)]; exact hx, h1⟩
theorem LK.bound (L : LK K G rl cl hl bl rvs cvs hvs rs hs bs) {a : Int} (h0 : 0 ≤ a) (h4 : a < 4) : ∃ b, bs[a.toNat]? = some b ∧ 0 ≤ b ∧ b ≤ 1000 ∧ atI (bs.map V.int) a = some (.int b) := by
  have hl := L.bln
  have hr : bs[a.toNat]? = some bs[a.toNat] := List.getElem?_eq_getElem (by omega)
  obtain ⟨b1, b2⟩ := L.hbs _ (List.getElem_mem (l := bs) (n := a.toNat) (by omega))
  exact ⟨_, hr, b1, b2, by rw [atI_nat h0 (by rw [List.length_map]; omega), List.getElem?_map, hr]; rfl⟩
/-- what is due for a pair -/
def dueF (rs : List RS) (hs : List (List Int)) (bs : List Int) (a k : Int) (f : Fin) : Prop := ∃ r ws b, rs[a.toNat]? = some r ∧ hs[k.toNat]? = some ws ∧ bs[k.toNat]? = some b ∧ f = runs r.cs ws b
def DueOk (K : PySem.W.Frag) (G : Hp) (rs : List RS) (hs : List (List Int)) (bs : List Int) (kvs : List (List Key × V)) : Prop :=
  ∀ (a k : Int) (v : V), valV kvs [.inl a, .inl k] = some v → ∃ f, dueF rs hs bs a k f ∧ Dp K G v f.d
theorem DueOk.ex {kvs : List (List Key × V)} (d : DueOk K G rs hs bs kvs) (e : Ex G G') : DueOk K G' rs hs bs kvs := fun a k v h => by
  obtain ⟨f, h1, h2⟩ := d a k v h
  exact ⟨f, h1, dp_ex e _ h2⟩
theorem DueOk.put {kvs : List (List Key × V)} (d : DueOk K G rs hs bs kvs) {a k : Int} {v : V} {f : Fin} (h1 : dueF rs hs bs a k f) (h2 : Dp K G v f.d) : DueOk K G rs hs bs (putK kvs [.inl a, .inl k] v) := fun a' k' v' h => by
  rw [valV_put] at h
  by_cases q : ([.inl a, .inl k] : List Key) = [.inl a', .inl k']
  · rw [if_pos q] at h
    cases h
    have q : a = a' ∧ k = k' := by simpa using q
    rw [← q.1, ← q.2]
    exact ⟨f, h1, h2⟩
  · rw [if_neg q] at h
    exact d a' k' v' h
theorem dueF_eq {a k : Int} {f : Fin} (h : dueF rs hs bs a k f) {r : RS} {ws : List Int} {b : Int} (h1 : rs[a.toNat]? = some r) (h2 : hs[k.toNat]? = some ws) (h3 : bs[k.toNat]? = some b) : f = runs r.cs ws b := by
  obtain ⟨r', ws', b', q1, q2, q3, q4⟩ := h
  rw [h1] at q1; rw [h2] at q2; rw [h3] at q3
  cases q1; cases q2; cases q3
  exact q4
end
end
end B72


set_option Elab.async false
set_option linter.all false
set_option maxRecDepth 100000
set_option maxHeartbeats 400000
/-! C36: the eight runs. -/
namespace B72
open PySem L2 Evl R72 PyProof.Rows
section
variable {K : PySem.W.Frag} {w : World} {G G' H H' : Hp} {M : List (Addr × HO)} {t : Addr} {n : Nat} {Q : VK} {E : XK} {σ : L2.St} {D : Ends} {v u : V}
variable {rl cl hl bl dl : Addr} {rvs cvs hvs : List V} {rs : List RS} {hs : List (List Int)} {bs : List Int} {x0 x3 x8 x10 x17 x18 : Option V}
abbrev S19 (x0 : Option V) (t : Addr) (x3 : Option V) (rl cl : Addr) (x8 x10 : Option V) (hl bl dl : Addr) (x17 x18 o2 o5 o6 o9 o11 o15 o16 : Option V) : L2.St :=
  [x0, some (.ref t), o2, x3, some (.ref rl), o5, o6, some (.ref cl), x8, o9, x10, o11, some (.ref hl), some (.ref bl), some (.ref dl), o15, o16, x17, x18]
theorem nt_one {p : Addr} {kvs : List (List Key × V)} : ∀ x ∈ ([(p, .dT kvs)] : List (Addr × HO)), NT x.2 := fun y hy => by rw [List.mem_singleton.mp hy]; exact nt_dT
theorem u_callN {a m : Nat} {sp : Sp} {gV : List V → List V → List V} {ta tk : TA} (kk : ta σ H fun vs H1 => tk σ H1 fun zs H2 => vs.length = a ∧ zs.length = m ∧ sp (gV vs zs) H2 Q E) : tCallN a m sp gV E ta tk σ H Q := kk
/-- the run that is due -/
theorem l_due (P : PF K w) (PWk : PW K) (L : LK K G rl cl hl bl rvs cvs hvs rs hs bs) {kvs : List (List Key × V)} (g : Gn G [(dl, .dT kvs)] t n H) (dok : DueOk K G rs hs bs kvs) {a k : Int} (a0 : 0 ≤ a) (a4 : a < 4) (k0 : 0 ≤ k) (k4 : k < 4)
    {va oa : Addr} {pv : V} {us : List V} {r : RS} (hr : rs[a.toNat]? = some r) (hpv : Dp K G pv (progD r.W r.ds)) (hoa : SqL K G oa us) (hus : DpAll K G us (r.outs.map placeD)) {o9 o11 o16 : Option V} (hkl : kvs.length ≤ 100)
    (kk : ∀ (G' H' : Hp) (kvs' : List (List Key × V)), Ex G G' → Gn G' [(dl, .dT kvs')] t n H' → DueOk K G' rs hs bs kvs' → kvs'.length ≤ kvs.length + 1 → (∃ v, valV kvs' [.inl a, .inl k] = some v) →
      D.nx (S19 x0 t x3 rl cl x8 x10 hl bl dl x17 x18 (some (.int k)) (some pv) (some (.ref oa)) o9 o11 (some (.int a)) o16) H') :
    tIfS (tB (tDNotIn (tTup (tCons (tVar 15) (tCons (tVar 2) tNil))) (tVar 14))) (sDPut (tVar 14) (tTup (tCons (tVar 15) (tCons (tVar 2) tNil))) (tCallN 2 1 (sp_run_rows K w) (kb_run_rows_2_steps K) C8.E0 (tCons (tCallN 0 2 (sp_compiled K w) (kb_compiled_0_left_out_program K) C8.E0 tNil (tCons (tCB (rTupX K) (tCons (tVar 6) tNil)) (tCons (tVar 5) tNil))) (tCons (tOp (rIx K) (tVar 12) (tVar 2)) tNil)) (tCons (tOp (rIx K) (tVar 13) (tVar 2)) tNil))) tNext D
      (S19 x0 t x3 rl cl x8 x10 hl bl dl x17 x18 (some (.int k)) (some pv) (some (.ref oa)) o9 o11 (some (.int a)) o16) H := by
  have rok := L.rok r (List.mem_of_getElem? hr)
  refine u_if (u_tB ?_)
  refine t_tup (pa_cons (pv_var (v := .int a) rfl) (pa_cons (pv_var (v := .int k) rfl) pa_nil)) (by show 2 ≤ 100000; decide) fun p1 hp1 => ?_
  obtain ⟨g1, e1, h1⟩ := g.addG (o := .tup [.int a, .int k]) hp1
  refine pv_var (v := .ref dl) rfl _ ?_
  have hdl := g1.at (p := dl) (o := .dT kvs) (by simp)
  have dg := DGet.t (k := [.inl a, .inl k]) hdl (b := p1) upd_same
  refine ⟨dl, _, rfl, dg, _, rfl, ?_⟩
  have L1 := L.ex e1
  have dok1 := dok.ex e1
  cases hv : valV kvs [.inl a, .inl k] with
  | some v => exact u_false (u_next (kk _ _ kvs e1 g1 dok1 (Nat.le_succ _) ⟨v, hv⟩))
  | none =>
    refine u_true ?_
    refine u_callN (u_cons (u_callN (pa_nil _ (u_cons ?_))))
    refine (?_ : tCons _ tNil _ _ _)
    refine u_cons (pv_var (v := .ref oa) rfl _ (pa_nil _ ⟨oa, us, rfl, .inl ⟨ex_l (e1.trans g1.ex) hoa, fun p2 hp2 => ?_⟩⟩))
    obtain ⟨g2, e2, h2⟩ := g1.addG (o := .tup us) hp2
    refine pa_cons (pv_var (v := pv) rfl) pa_nil _ ⟨rfl, rfl, ?_⟩
    have e12 := e1.trans e2
    have OI2 : OI K _ p2 r.outs := ⟨.inr (.tup (st_of (g2.ex _ _ h2)) (dpAll_ex (e12.trans g2.ex) _ hus)), outs_ok rok.1 rok.2.1⟩
    refine s_compiled P PWk rok.1 (dp_ex (e12.trans g2.ex) _ hpv) OI2 fun p3 H3 vs hp3 e3 h3 d3 => ?_
    obtain ⟨G3, eG3, g3, eg3, K1, K2, K3, K4⟩ := g2.learn K nt_one e3
    have h3G := K1 p3 _ hp3 h3
    have d3G := K4 _ _ (noLs_rows _) d3
    have e13 := e12.trans eG3
    have L3 := L.ex e13
    obtain ⟨ws, wa, w1, w2, w3, w4⟩ := L3.words k0 k4
    obtain ⟨b, b1, b2, b3, b4⟩ := L3.bound k0 k4
    refine pa_cons (pv_op (pv_var (v := .ref hl) rfl) (pv_var (v := .int k) rfl) (pr_ixl (sq_of (g3.ex _ _ L3.hhl)) w3)) pa_nil _ ?_
    refine pa_cons (pv_op (pv_var (v := .ref bl) rfl) (pv_var (v := .int k) rfl) (pr_ixl (sq_of (g3.ex _ _ L3.hbl)) b4)) pa_nil _ ⟨rfl, rfl, ?_⟩
    refine l_run P rok g3 nt_one (vals := vs) ⟨sq_of (g3.ex _ _ h3G), dpAll_ex g3.ex _ d3G⟩ (.inr (ex_t g3.ex w4)) w2 ⟨b2, b3⟩ fun G4 H4 fv e4 g4 d4 _ => ?_
    refine pv_var (v := .ref dl) rfl _ ?_
    refine t_tup (pa_cons (pv_var (v := .int a) rfl) (pa_cons (pv_var (v := .int k) rfl) pa_nil)) (by show 2 ≤ 100000; decide) fun p5 hp5 => ?_
    obtain ⟨g5, e5, h5⟩ := g4.addG (o := .tup [.int a, .int k]) hp5
    have hdl5 := g5.at (p := dl) (o := .dT kvs) (by simp)
    refine ⟨dl, _, rfl, DPut.t (k := [.inl a, .inl k]) hdl5 upd_same (sz_lt (by omega)), ?_⟩
    have e15 := e13.trans (e4.trans e5)
    have g6 := g5.chg (p := dl) (o := .dT kvs) (o' := .dT (putK kvs [.inl a, .inl k] fv)) [] (c2 := []) rfl
    exact kk _ _ _ e15 g6 ((dok.ex e15).put ⟨r, ws, b, hr, w1, b1, rfl⟩ (dp_ex e5 _ d4)) (len_putK _ _ _) ⟨fv, by rw [valV_put, if_pos rfl]⟩
theorem l_turns (P : PF K w) (PWk : PW K) (L : LK K G rl cl hl bl rvs cvs hvs rs hs bs) (g : Gn G [(dl, .dT [])] t n H) (hn : n ≤ 300000) {o2 o5 o6 o9 o11 o15 o16 : Option V}
    (kk : ∀ (G' H' : Hp) (o2 o5 o6 o9 o11 o15 o16 : Option V), Ex G G' → Gn G' [] t (n + 200) H' → D.nx (S19 x0 t x3 rl cl x8 x10 hl bl dl x17 x18 o2 o5 o6 o9 o11 o15 o16) H') :
    tFor (iRng1 (tCons (tC (.int (8))) tNil)) (gName 11) (tSeq (tPar 15 2 (tCons (tCall (sp__law_draw K w) [] C8.E0 (tCons (tVar 1) (tCons (tC (.int (4))) tNil))) (tCons (tCall (sp__law_draw K w) [] C8.E0 (tCons (tVar 1) (tCons (tC (.int (4))) tNil))) tNil))) (tSeq (tAsg (tOp (rIx K) (tVar 4) (tVar 15)) (gTup K 2 (gCons (gName 5) (gCons (gName 6) gNil)))) (C8.tCut (tIfS (tB (tDNotIn (tTup (tCons (tVar 15) (tCons (tVar 2) tNil))) (tVar 14))) (sDPut (tVar 14) (tTup (tCons (tVar 15) (tCons (tVar 2) tNil))) (tCallN 2 1 (sp_run_rows K w) (kb_run_rows_2_steps K) C8.E0 (tCons (tCallN 0 2 (sp_compiled K w) (kb_compiled_0_left_out_program K) C8.E0 tNil (tCons (tCB (rTupX K) (tCons (tVar 6) tNil)) (tCons (tVar 5) tNil))) (tCons (tOp (rIx K) (tVar 12) (tVar 2)) tNil)) (tCons (tOp (rIx K) (tVar 13) (tVar 2)) tNil))) tNext)
      (tSeq (tAsg (tIf (tTest (tOp (rEqX K) (tCall (sp__law_draw K w) [] C8.E0 (tCons (tVar 1) (tCons (tC (.int (2))) tNil))) (tC (.int (0))))) (tCB (rLisX K) (tCons (tOp (rIx K) (tVar 7) (tVar 15)) tNil)) (tOp (rIx K) (tVar 7) (tVar 15))) (gName 9)) (tSeq (tAsg (tCallN 1 2 (sp_run_rows K w) (kb_run_rows_1_words_steps K) C8.E0 (tCons (tVar 9) tNil) (tCons (tOp (rIx K) (tVar 12) (tVar 2)) (tCons (tOp (rIx K) (tVar 13) (tVar 2)) tNil))) (gName 16))
      (C8.tCut (tIfS (tTest (tOp (rEqX K) (tCall (sp__law_draw K w) [] C8.E0 (tCons (tVar 1) (tCons (tC (.int (2))) tNil))) (tC (.int (0))))) (tAsg (tCallN 0 3 (sp_run_rows K w) (kb_run_rows_0_steps_words_rows K) C8.E0 tNil (tCons (tOp (rIx K) (tVar 13) (tVar 2)) (tCons (tOp (rIx K) (tVar 12) (tVar 2)) (tCons (tVar 9) tNil)))) (gName 16)) tNext) (tIfS (tTest (tOp (rNeX K) (tCB (rReprX K) (tCons (tVar 16) tNil)) (tCB (rReprX K) (tCons (tDGet (tVar 14) (tTup (tCons (tVar 15) (tCons (tVar 2) tNil)))) tNil)))) (tRet (tC (.bl false))) tNext)))))))
      D (S19 x0 t x3 rl cl x8 x10 hl bl dl x17 x18 o2 o5 o6 o9 o11 o15 o16) H := by
  refine u_for (u_rng1 (pv_c _ (pa_nil _ ⟨_, rfl, by decide, by decide, ?_⟩)))
  refine for_range (lo := 0) (n := 8) (fun i σ' H' => ∃ (o2 o5 o6 o9 o11 o15 o16 : Option V) (G' : Hp) (kvs : List (List Key × V)), σ' = S19 x0 t x3 rl cl x8 x10 hl bl dl x17 x18 o2 o5 o6 o9 o11 o15 o16 ∧ Ex G G' ∧ Gn G' [(dl, .dT kvs)] t (n + 4 * i) H' ∧ DueOk K G' rs hs bs kvs ∧ kvs.length ≤ i)
    ⟨o2, o5, o6, o9, o11, o15, o16, G, [], rfl, Ex.refl _, g, fun a k v h => (by cases h), Nat.le_refl _⟩ (fun i σ' H' hi q => ?_) fun σ' H' q => ?_
  rotate_left
  · obtain ⟨o2, o5, o6, o9, o11, o15, o16, G', kvs, rfl, e, g', _⟩ := q
    exact kk G' H' o2 o5 o6 o9 o11 o15 o16 e ((g'.sub (List.nil_sublist _)).up (by omega))
  obtain ⟨o2, o5, o6, o9, o11, o15, o16, G', kvs, rfl, e, g', dok, hkl⟩ := q
  dsimp only [gName]
  refine u_seq (u_par (u_cons ?_))
  refine t_call (pa_cons (pv_var (v := .ref t) rfl) (pa_cons pv_c pa_nil)) (s_draw g' (by omega) (by decide) fun H1 a g1 a0 a4 => ?_)
  refine u_cons (t_call (pa_cons (pv_var (v := .ref t) rfl) (pa_cons pv_c pa_nil)) (s_draw g1 (by omega) (by decide) fun H2 k g2 k0 k4 => ?_))
  refine pa_nil _ ⟨_, _, rfl, ?_⟩
  have L2 := L.ex e
  obtain ⟨r, va, pv, oa, us, hr, hrm, hva, hva2, hpv, hoa, hus⟩ := L2.res a0 a4
  have rok := L.rok r hrm
  refine u_seq (a_asg (pv_op (pv_var (v := .ref rl) rfl) (pv_var (v := .int a) rfl) (pr_ixl (sq_of (g2.ex _ _ L2.hrl)) hva)) (g_n2 (ex_t g2.ex hva2) ?_))
  dsimp only
  refine u_cut ⟨fun σ' H' => σ' = S19 x0 t x3 rl cl x8 x10 hl bl dl x17 x18 (some (.int k)) (some pv) (some (.ref oa)) o9 (some (.int (0 + (i : Int)))) (some (.int a)) o16 ∧ ∃ (G3 : Hp) (kvs' : List (List Key × V)), Ex G' G3 ∧ Gn G3 [(dl, .dT kvs')] t (n + 4 * i + 1 + 1) H' ∧ DueOk K G3 rs hs bs kvs' ∧ kvs'.length ≤ kvs.length + 1 ∧ ∃ v, valV kvs' [.inl a, .inl k] = some v, ?_, fun σ' H' z => ?_⟩
  · exact l_due (va := va) P PWk L2 g2 dok a0 a4 k0 k4 hr hpv hoa hus (by omega) fun G3 H3 kvs' e3 g3 d3 l3 v3 => ⟨rfl, G3, kvs', e3, g3, d3, l3, v3⟩
  obtain ⟨rfl, G3, kvs', e3, g3, d3, l3, dv, hdv⟩ := z
  obtain ⟨f, df, dfd⟩ := d3 a k dv hdv
  have L3 := L2.ex e3
  obtain ⟨ca, vals, hca, C⟩ := L3.code a0 a4 hr
  obtain ⟨ws, wa, w1, w2, w3, w4⟩ := L3.words k0 k4
  obtain ⟨b, b1, b2, b3, b4⟩ := L3.bound k0 k4
  have ef := dueF_eq df hr w1 b1
  -- the rows
  have second : ∀ (G4 H4 : Hp) (ca : Addr) (m : Nat), Ex G3 G4 → Gn G4 [(dl, .dT kvs')] t m H4 → m ≤ n + 4 * i + 3 → CI K G4 ca vals r.cs →
      (tSeq (tAsg (tCallN 1 2 (sp_run_rows K w) (kb_run_rows_1_words_steps K) C8.E0 (tCons (tVar 9) tNil) (tCons (tOp (rIx K) (tVar 12) (tVar 2)) (tCons (tOp (rIx K) (tVar 13) (tVar 2)) tNil))) (gName 16))
      (C8.tCut (tIfS (tTest (tOp (rEqX K) (tCall (sp__law_draw K w) [] C8.E0 (tCons (tVar 1) (tCons (tC (.int (2))) tNil))) (tC (.int (0))))) (tAsg (tCallN 0 3 (sp_run_rows K w) (kb_run_rows_0_steps_words_rows K) C8.E0 tNil (tCons (tOp (rIx K) (tVar 13) (tVar 2)) (tCons (tOp (rIx K) (tVar 12) (tVar 2)) (tCons (tVar 9) tNil)))) (gName 16)) tNext) (tIfS (tTest (tOp (rNeX K) (tCB (rReprX K) (tCons (tVar 16) tNil)) (tCB (rReprX K) (tCons (tDGet (tVar 14) (tTup (tCons (tVar 15) (tCons (tVar 2) tNil)))) tNil)))) (tRet (tC (.bl false))) tNext)))
        { D with nx := fun σ' H' => ∃ (o2 o5 o6 o9 o11 o15 o16 : Option V) (G' : Hp) (kvs : List (List Key × V)), σ' = S19 x0 t x3 rl cl x8 x10 hl bl dl x17 x18 o2 o5 o6 o9 o11 o15 o16 ∧ Ex G G' ∧ Gn G' [(dl, .dT kvs)] t (n + 4 * (i + 1)) H' ∧ DueOk K G' rs hs bs kvs ∧ kvs.length ≤ i + 1, ct := fun σ' H' => ∃ (o2 o5 o6 o9 o11 o15 o16 : Option V) (G' : Hp) (kvs : List (List Key × V)), σ' = S19 x0 t x3 rl cl x8 x10 hl bl dl x17 x18 o2 o5 o6 o9 o11 o15 o16 ∧ Ex G G' ∧ Gn G' [(dl, .dT kvs)] t (n + 4 * (i + 1)) H' ∧ DueOk K G' rs hs bs kvs ∧ kvs.length ≤ i + 1, bk := D.nx }
        (S19 x0 t x3 rl cl x8 x10 hl bl dl x17 x18 (some (.int k)) (some pv) (some (.ref oa)) (some (.ref ca)) (some (.int (0 + (i : Int)))) (some (.int a)) o16) H4 := by
    intro G4 H4 ca m e4 g4 hm C4
    have L4 := L3.ex e4
    have rd : ∀ {G' H' : Hp} {m' : Nat} {o16 : Option V}, Ex G4 G' → Gn G' [(dl, .dT kvs')] t m' H' → Pv (tOp (rIx K) (tVar 12) (tVar 2)) (S19 x0 t x3 rl cl x8 x10 hl bl dl x17 x18 (some (.int k)) (some pv) (some (.ref oa)) (some (.ref ca)) (some (.int (0 + (i : Int)))) (some (.int a)) o16) H' (.ref wa) ∧ Pv (tOp (rIx K) (tVar 13) (tVar 2)) (S19 x0 t x3 rl cl x8 x10 hl bl dl x17 x18 (some (.int k)) (some pv) (some (.ref oa)) (some (.ref ca)) (some (.int (0 + (i : Int)))) (some (.int a)) o16) H' (.int b) := by
      intro G' H' m' o16 e' g'
      have L5 := L4.ex e'
      exact ⟨pv_op (pv_var (v := .ref hl) rfl) (pv_var (v := .int k) rfl) (pr_ixl (sq_of (g'.ex _ _ L5.hhl)) w3), pv_op (pv_var (v := .ref bl) rfl) (pv_var (v := .int k) rfl) (pr_ixl (sq_of (g'.ex _ _ L5.hbl)) b4)⟩
    obtain ⟨rd1, rd2⟩ := rd (o16 := o16) (Ex.refl _) g4
    refine u_seq (u_asg (t_callN (pa_cons (pv_var (v := .ref ca) rfl) pa_nil) (pa_cons rd1 (pa_cons rd2 pa_nil)) rfl rfl ?_))
    refine l_run P rok g4 nt_one (C4.ex g4.ex) (.inr (ex_t (e4.trans g4.ex) w4)) w2 ⟨b2, b3⟩ fun G5 H5 fv e5 g5 d5 F5 => ?_
    dsimp only [gName]
    -- the end of a turn
    refine u_cut ⟨fun σ' H' => ∃ (G6 : Hp) (fv : V), σ' = S19 x0 t x3 rl cl x8 x10 hl bl dl x17 x18 (some (.int k)) (some pv) (some (.ref oa)) (some (.ref ca)) (some (.int (0 + (i : Int)))) (some (.int a)) (some fv) ∧ Ex G4 G6 ∧ Gn G6 [(dl, .dT kvs')] t (m + 1) H' ∧ Dp K G6 fv (runs r.cs ws b).d, ?_, fun σ' H' z => ?_⟩
    · refine u_if (u_test (u_op (t_call (pa_cons (pv_var (v := .ref t) rfl) (pa_cons pv_c pa_nil)) (s_draw g5 (by omega) (by decide) fun H6 d6 g6 _ _ => ?_))))
      refine pv_c _ (pr_eq rfl _ ⟨_, rfl, ?_⟩)
      by_cases hz : V.int d6 = .int 0
      · rw [decide_eq_true hz]
        obtain ⟨rd1, rd2⟩ := rd (o16 := some fv) e5 g6
        refine u_true (u_asg (t_callN pa_nil (pa_cons rd2 (pa_cons rd1 (pa_cons (pv_var (v := .ref ca) rfl) pa_nil))) rfl rfl ?_))
        refine l_run P rok g6 nt_one (C4.ex (e5.trans g6.ex)) (.inr (ex_t (e4.trans (e5.trans g6.ex)) w4)) w2 ⟨b2, b3⟩ fun G7 H7 fv7 e7 g7 d7 _ => ?_
        exact ⟨G7, fv7, rfl, e5.trans e7, g7, d7⟩
      · rw [decide_eq_false hz]
        exact u_false (u_next ⟨G5, fv, rfl, e5, g6, d5⟩)
    · obtain ⟨G6, fv, rfl, e6, g6, d6⟩ := z
      refine u_if (u_test (u_op (pv_repr F5 (pv_var (v := fv) rfl) (ref_tup (dp_ex g6.ex _ d6)) (dp_ex g6.ex _ d6) _ ?_)))
      have hdl6 := g6.at (p := dl) (o := .dT kvs') (by simp)
      refine (?_ : tCons _ tNil _ _ _)
      refine u_cons (pv_var (v := .ref dl) rfl _ ?_)
      refine t_tup (pa_cons (pv_var (v := .int a) rfl) (pa_cons (pv_var (v := .int k) rfl) pa_nil)) (by show 2 ≤ 100000; decide) fun p5 hp5 => ?_
      obtain ⟨g7, e7, h7⟩ := g6.addG (o := .tup [.int a, .int k]) hp5
      have hdl7 := g7.at (p := dl) (o := .dT kvs') (by simp)
      have dg := DGet.t (k := [.inl a, .inl k]) hdl7 (b := p5) upd_same
      rw [hdv] at dg
      refine ⟨dl, dv, rfl, dg, ?_⟩
      have dfd7 := dp_ex ((e4.trans e6).trans (e7.trans g7.ex)) _ dfd
      rw [ef] at dfd7
      refine pa_nil _ (rr_of F5 (ref_tup dfd7) dfd7 ?_)
      refine pr_ne rfl _ ⟨_, rfl, ?_⟩
      rw [decide_eq_true rfl]
      refine u_false (u_next ⟨_, _, _, _, _, _, _, _, kvs', rfl, e.trans (e3.trans (e4.trans (e6.trans e7))), g7.up (m := n + 4 * (i + 1)) (by omega), d3.ex (e4.trans (e6.trans e7)), by omega⟩)
  refine u_seq (u_asg ?_)
  refine (?_ : tTest _ _ _ _)
  refine u_test (u_op (t_call (pa_cons (pv_var (v := .ref t) rfl) (pa_cons pv_c pa_nil)) (s_draw g3 (by omega) (by decide) fun H6 d6 g6 _ _ => ?_)))
  refine pv_c _ (pr_eq rfl _ ⟨_, rfl, ?_⟩)
  have hix : Pv (tOp (rIx K) (tVar 7) (tVar 15)) (S19 x0 t x3 rl cl x8 x10 hl bl dl x17 x18 (some (.int k)) (some pv) (some (.ref oa)) o9 (some (.int (0 + (i : Int)))) (some (.int a)) o16) H6 (.ref ca) := pv_op (pv_var (v := .ref cl) rfl) (pv_var (v := .int a) rfl) (pr_ixl (sq_of (g6.ex _ _ L3.hcl)) hca)
  by_cases hz : V.int d6 = .int 0
  · rw [decide_eq_true hz]
    refine u_true ?_
    refine (?_ : tCons _ tNil _ _ _)
    refine u_cons (hix _ (pa_nil _ ⟨ca, vals, rfl, .inl (ex_l g6.ex C.h), fun p8 hp8 => ?_⟩))
    obtain ⟨g8, e8, h8⟩ := g6.addG (o := .lst vals) hp8
    exact second _ _ p8 _ e8 g8 (by omega) ⟨sq_of h8, dpAll_ex e8 _ C.d⟩
  · rw [decide_eq_false hz]
    refine u_false (hix _ ?_)
    exact second _ _ ca _ (Ex.refl _) g6 (by omega) C
end
end B72


set_option Elab.async false
set_option linter.all false
set_option maxRecDepth 100000
set_option maxHeartbeats 400000
/-! C37: steps 0. -/
namespace B72
open PySem L2 Evl R72 PyProof.Rows
section
variable {K : PySem.W.Frag} {w : World} {G G' H H' : Hp} {M : List (Addr × HO)} {t : Addr} {n : Nat} {Q : VK} {E : XK} {σ : L2.St} {D : Ends} {v u : V} {ds : List Df} {W : Int}
/-- for i, x in enumerate(xs), xs a list that the block leaves -/
theorem f_E {ta : TA} {g : TG} {tb : TS} {a : Addr} {xs : List V} (h : Pa ta σ H [.ref a]) (hx : SqL K H a xs) (P : Nat → L2.St → Hp → Prop) (h0 : P 0 σ H) (hl : ∀ i σ H, P i σ H → SqL K H a xs)
    (hs : ∀ i x T σ H, xs[i]? = some x → P i σ H → H T = none → g (.ref T) σ (upd H T (.tup [.int i, x])) fun σ2 H2 => tb { D with nx := P (i + 1), ct := P (i + 1), bk := D.nx } σ2 H2) (hd : ∀ σ H, P xs.length σ H → D.nx σ H) : tFor (iEnumX K ta) g tb D σ H := by
  refine h _ ⟨a, xs, rfl, .inl ⟨hx, fun i m σ H => m = xs.length - i ∧ i ≤ xs.length ∧ P i σ H, ⟨xs.length, rfl, Nat.zero_le _, h0⟩, ?_⟩⟩
  rintro i m σ H ⟨rfl, hi, p⟩
  have hx := hl i σ H p
  by_cases hlt : i < xs.length
  · refine .inr ⟨⟨xs, xs[i], hx, List.getElem?_eq_getElem hlt⟩, P (i + 1), fun σ' H' q => ⟨xs.length - (i + 1), by omega, rfl, hlt, q⟩, ?_⟩
    rintro x H' ⟨T, y, rfl, hT, rfl, hy⟩
    exact hs i y T σ H (hy _ hx) p hT
  · have : i = xs.length := by omega
    subst this
    exact .inl ⟨⟨xs, hx, Nat.le_refl _⟩, hd σ H p⟩
theorem s_law_first (ok : ProgOk W ds) {pv : V} (hp : Dp K H pv (progD W ds))
    (k : ∀ p H' d s0 sr, Ex H H' → H' p = some (.tup [.str "main", .int s0.1]) → d ∈ ds → d.h.name = "main" → d.steps = s0 :: sr → Q (.ref p) H') : sp__law_first K w [pv] H Q E := by
  refine ⟨rfl, ?_⟩
  unfold t__law_first
  obtain ⟨pp, da, dvs, rfl, I⟩ := qi_of hp
  have hl3 := ds_len ok
  have hdl : dvs.length = ds.length := by rw [dpAll_len I.dd, List.length_map]
  refine u_seq (u_asg (u_op (u_lc (u_iseq (pv_op (pv_var (v := .ref pp) rfl) pv_c (pr_ixt I.hp rfl) _ ⟨da, rfl, .inr ⟨dvs, I.hd, fun Dl hDl => ?_⟩⟩)))))
  refine lc_tup (xs := dvs) (fun i H' => Ex H H' ∧ ∃ vs, H' Dl = some (.lst vs) ∧ vs.length ≤ i ∧ (∀ v ∈ vs, ∃ d ∈ ds, d.h.name = "main" ∧ Dp K H v (.tuple (d.steps.map stepD))) ∧ (vs = [] → ∀ d ∈ ds.take i, d.h.name ≠ "main")) ⟨Ex.new hDl, [], upd_same, Nat.le_refl _, fun v hv => (by cases hv), fun _ d hd => (by simp at hd)⟩ (fun i H' _ q => ex_t q.1 I.hd) (fun i x H' hx q => ?_) fun H6 q => ?_
  · obtain ⟨e, vs, h, q1, q2, q3⟩ := q
    have hi : i < ds.length := by have := (List.getElem?_eq_some_iff.mp hx).1; omega
    have hdi : ds[i]? = some ds[i] := List.getElem?_eq_getElem hi
    obtain ⟨x', hx', dx⟩ := dpAll_get I.dd (i := i) (d := (ds[i]).d) (by rw [List.getElem?_map, hdi]; rfl)
    rw [hx] at hx'
    cases hx'
    have hm : ds[i] ∈ ds := List.getElem_mem hi
    generalize hdd' : ds[i] = d at hdi dx hm
    clear hdd'
    obtain ⟨dd, a1, a2, a3, a4, sv, rfl, J⟩ := di_of dx
    have et : ds.take (i + 1) = ds.take i ++ [d] := by rw [List.take_succ, hdi]; rfl
    refine ⟨rfl, pt_test (pv_eqS (pv_op (pv_var (v := .ref dd) rfl) pv_c (pr_ixt (ex_t e J.hd) rfl)) pv_c) _ ?_⟩
    by_cases c : d.h.name = "main"
    · rw [decide_eq_true c]
      refine u_true (pv_op (pv_var (v := .ref dd) rfl) pv_c (pr_ixt (ex_t e J.hd) rfl) _ ⟨vs, h, sz_lt (by omega), e.mut hDl, vs ++ [.ref a4], upd_same, by rw [List.length_append]; simp only [List.length_singleton]; omega, fun v hv => ?_, fun z => (by simp at z)⟩)
      rcases List.mem_append.mp hv with z | z
      · exact q2 v z
      · rw [List.mem_singleton.mp z]; exact ⟨d, hm, c, .tup J.h4 J.hs⟩
    · rw [decide_eq_false c]
      refine u_false ⟨e, vs, h, by omega, q2, fun z d' hd' => ?_⟩
      rw [et] at hd'
      rcases List.mem_append.mp hd' with y | y
      · exact q3 z d' y
      · rw [List.mem_singleton.mp y]; exact c
  · obtain ⟨e, vs, h, q1, q2, q3⟩ := q
    have hv : vs ≠ [] := fun z => by
      obtain ⟨d, hd, en⟩ := List.mem_map.mp (main_in ok)
      refine q3 z d ?_ en
      rw [hdl, List.take_length]; exact hd
    obtain ⟨v, r, rfl⟩ := List.exists_cons_of_ne_nil hv
    obtain ⟨d, hd, en, dv⟩ := q2 v (List.mem_cons_self ..)
    refine pv_c _ (pr_ixl (sq_of h) (atI_zero _ _) _ ?_)
    obtain ⟨s0, sr, hs0⟩ := first_get ok hd
    rw [hs0] at dv
    obtain ⟨sa, sv, rfl, hsa, dsv⟩ := dp_tup dv
    obtain ⟨s0v, svr, rfl, ds0, _⟩ := dpAll_cons dsv
    obtain ⟨xa, xs, rfl, ht, dxs⟩ := dp_tup ds0
    obtain ⟨l0, r, rfl, dl, dr⟩ := dpAll_cons dxs
    cases dp_int dl
    dsimp only [gName]
    refine a_retT (pa_cons pv_c (pa_cons (pv_op (pv_op (pv_var (v := .ref sa) rfl) pv_c (pr_ixt (ex_t e hsa) (atI_zero _ _))) pv_c (pr_ixt (ex_t e ht) (atI_zero _ _))) pa_nil)) (by show 2 ≤ 100000; decide) fun p hp => ?_
    exact k p _ d s0 sr (e.trans (Ex.new hp)) upd_same hd en hs0
variable {rl cl hl bl dl : Addr} {rvs cvs hvs : List V} {rs : List RS} {hs : List (List Int)} {bs : List Int} {x0 x3 x8 x10 x17 x18 : Option V}
/-- the default of words -/
def Dfl (K : PySem.W.Frag) : Prop := ∃ a, dflW K = .ref a ∧ ∀ H, SqT K H a []
theorem l_zero (P : PF K w) (dw : Dfl K) (L : LK K G rl cl hl bl rvs cvs hvs rs hs bs) (g : Gn G [] t n H) {o2 o5 o6 o9 o11 o15 o16 : Option V}
    (kk : ∀ (G' H' : Hp) (o2 o9 : Option V), Ex G G' → Gn G' [] t n H' → D.nx (S19 x0 t x3 rl cl x8 x10 hl bl dl x17 x18 o2 o5 o6 o9 o11 o15 o16) H') :
    tFor (iEnumX K (tCons (tVar 7) tNil)) (gTup K 2 (gCons (gName 2) (gCons (gName 9) gNil))) (tIfS (tTest (tOp (rNeX K) (tCallN 1 1 (sp_run_rows K w) (kb_run_rows_1_steps K) C8.E0 (tCons (tVar 9) tNil) (tCons (tC (.int (0))) tNil)) (tTup (tCons (tTup tNil) (tCons (tTup (tCons (tC (.str "fault")) (tCons (tC (.str "steps")) (tCons (tCall (sp__law_first K w) [] C8.E0 (tCons (tOp (rIx K) (tOp (rIx K) (tVar 4) (tVar 2)) (tC (.int (0)))) tNil)) tNil)))) (tCons (tC (.int (0))) (tCons (tC (.int (0))) tNil))))))) (tRet (tC (.bl false))) tNext)
      D (S19 x0 t x3 rl cl x8 x10 hl bl dl x17 x18 o2 o5 o6 o9 o11 o15 o16) H := by
  obtain ⟨wa, hwa, hwt⟩ := dw
  have hcl : cvs.length = 4 := by rw [dpAll_len L.hcs, List.length_map, L.rln]
  refine f_E (a := cl) (xs := cvs) (pa_cons (pv_var rfl) pa_nil) (sq_of (g.ex _ _ L.hcl)) (fun i σ' H' => ∃ (o2 o9 : Option V) (G' : Hp), σ' = S19 x0 t x3 rl cl x8 x10 hl bl dl x17 x18 o2 o5 o6 o9 o11 o15 o16 ∧ Ex G G' ∧ Gn G' [] t n H')
    ⟨o2, o9, G, rfl, Ex.refl _, g⟩ (fun i σ' H' q => ?_) (fun i x T σ' H' hx q hT => ?_) fun σ' H' q => ?_
  · obtain ⟨_, _, G', _, e, g'⟩ := q
    exact sq_of ((e.trans g'.ex) _ _ L.hcl)
  · obtain ⟨o2, o9, G', rfl, e, g'⟩ := q
    have hi : i < cvs.length := (List.getElem?_eq_some_iff.mp hx).1
    obtain ⟨g1, e1, h1⟩ := g'.addG (o := .tup [.int i, x]) hT
    have L1 := L.ex (e.trans e1)
    refine g_n2 (st_of upd_same) ?_
    obtain ⟨r, va, pv, oa, us, hr, hrm, hva, hva2, hpv, hoa, hus⟩ := L1.res (a := (i : Int)) (by omega) (by omega)
    have rok := L.rok r hrm
    obtain ⟨ca, vals, hca, C⟩ := L1.code (a := (i : Int)) (by omega) (by omega) hr
    have hx2 : x = .ref ca := by
      rw [atI_nat (by omega) (by omega)] at hca
      have : ((i : Int)).toNat = i := rfl
      rw [this, hx] at hca
      exact Option.some.inj hca
    subst hx2
    refine u_if (u_test (u_op (t_callN (pa_cons (pv_var (v := .ref ca) rfl) pa_nil) (pa_cons pv_c pa_nil) rfl rfl ?_)))
    show sp_run_rows K w [.ref ca, dflW K, .int 0] _ _ _
    rw [hwa]
    refine l_run P rok g1 (fun x hx => by cases hx) (ws := []) (C.ex g1.ex) (.inr (hwt _)) (by decide) (by decide) fun G5 H5 fv e5 g5 d5 F5 => ?_
    refine u_tup (u_cons (t_tup pa_nil (by decide) fun p6 hp6 => ?_))
    obtain ⟨g6, e6, h6⟩ := g5.addG (o := .tup []) hp6
    refine u_cons (u_tup (u_cons (pv_c _ (u_cons (pv_c _ (u_cons ?_))))))
    have L6 := L1.ex (e5.trans e6)
    have hpv6 := dp_ex ((e5.trans e6).trans g6.ex) _ hpv
    refine t_call (pa_cons (pv_op (pv_op (pv_var (v := .ref rl) rfl) (pv_var (v := .int i) rfl) (pr_ixl (sq_of (g6.ex _ _ L6.hrl)) hva)) pv_c (pr_ixt (ex_t ((e5.trans e6).trans g6.ex) hva2) (atI_zero _ _))) pa_nil) (s_law_first rok.1 hpv6 fun p7 H7 d s0 sr e7 h7 hd hdn hds => ?_)
    obtain ⟨G7, eG7, g7, eg7, K1, K2, K3, K4⟩ := g6.learn K (fun x hx => by cases hx) e7
    have h7 := K2 _ _ (st_of (K := K) h7)
    refine pa_nil _ ⟨sz_of (by show 3 ≤ 100000; decide), fun p8 hp8 => ?_⟩
    obtain ⟨g8, e8, h8⟩ := g7.addG (o := .tup [.str "fault", .str "steps", .ref p7]) hp8
    refine u_cons (pv_c _ (u_cons (pv_c _ (pa_nil _ ⟨sz_of (by show 4 ≤ 100000; decide), fun p9 hp9 => ?_⟩))))
    obtain ⟨g9, e9, h9⟩ := g8.addG (o := .tup [.ref p6, .ref p8, .int 0, .int 0]) hp9
    have er := runs_zero rok.1 (fun pl => !decide (pl ∈ r.outs)) [] hd hdn hds
    have er : runs r.cs [] 0 = ⟨[], .tuple [.str "fault", .str "steps", placeD ("main", s0.1)], 0, 0⟩ := er
    have e79 := eG7.trans (e8.trans e9)
    have dL : Dp K (upd (upd _ p8 _) p9 _) fv (runs r.cs [] 0).d := dp_ex ((e6.trans e79).trans g9.ex) _ d5
    refine .inr (.inl ⟨_, (runs r.cs [] 0).d, dL, ?_, F5.shaped, F5.shaped, _, rfl, ?_⟩)
    · rw [er]
      have q : Dp K (upd (upd G7 p8 (.tup [.str "fault", .str "steps", .ref p7])) p9 (.tup [.ref p6, .ref p8, .int 0, .int 0])) (.ref p9) (Fin.d ⟨[], .tuple [.str "fault", .str "steps", placeD ("main", s0.1)], 0, 0⟩) :=
        .tup (st_of h9) (.cons (.tup (st_of (e79 _ _ h6)) .nil) (.cons (.tup (st_of (e9 _ _ h8)) (.cons (.str _) (.cons (.str _) (.cons (.tup (ex_t (e8.trans e9) h7) (.cons (.str _) (.cons (.int _) .nil))) .nil)))) (.cons (.int _) (.cons (.int _) .nil))))
      exact dp_ex g9.ex _ q
    · rw [SeqAt.eqv_refl _ (sml_ok _ F5.sml).1]
      exact u_false (u_next ⟨_, _, _, rfl, (e.trans e1).trans (e5.trans (e6.trans e79)), g9⟩)
  · obtain ⟨o2, o9, G', rfl, e, g'⟩ := q
    exact kk G' H' o2 o9 e g'
end
end B72


set_option Elab.async false
set_option linter.all false
set_option maxRecDepth 100000
set_option maxHeartbeats 400000
/-! C38: the law. -/
namespace B72
open PySem L2 Evl R72 PyProof.Rows
section
variable {K : PySem.W.Frag} {w : World} {G G' H H' : Hp} {M : List (Addr × HO)} {t : Addr} {n : Nat} {Q : VK} {E : XK} {σ : L2.St} {D : Ends} {v u : V}
theorem nodess_strsV (l : List Str) : nodess (l.map PyData.str) ≤ l.length := nodess_strs l
theorem s_law (P : PF K w) (PWk : PW K) (dw : Dfl K) {sc : Addr} {script : List Int} (hs : SqL K H sc (script.map V.int)) (hl : script.length ≤ 1000) (k : ∀ H', Ex H H' → Q (.bl true) H') : sp_law K w [.ref sc] H Q E := by
  refine ⟨rfl, ?_⟩
  unfold t_law
  have hst : start N_law [V.ref sc] = [some (V.ref sc), none, none, none, none, none, none, none, none, none, none, none, none, none, none, none, none, none, none] := rfl
  rw [hst]
  refine u_seq (u_asg (t_call (pa_cons (pv_var (v := .ref sc) rfl) (pa_cons pv_c pa_nil)) (s_tape hs hl fun H1 t own mixed e1 ht1 ht o0 m0 => ?_)))
  have g0 : Gn H [] t 0 H1 := ⟨own, mixed, 0, ⟨e1, fun x hx => by rw [List.mem_singleton.mp hx]; exact ht, by simp, fun a ha => by
    have : a = t := by simpa using ha
    rw [this]; exact ht1⟩, o0, m0, Int.le_refl _, Int.le_refl _⟩
  dsimp only [gName]
  refine u_seq (u_asg (l_programs g0 (by omega) fun G1 H2 pl pvs ps e2 g1 hpl hps pok pln => ?_))
  dsimp only [gName]
  refine u_seq (a_asgL pa_nil (by decide) fun rl hrl => ?_)
  dsimp only [gName]
  have g2 := g1.new (o := .lst []) hrl
  refine u_seq (l_results P PWk g2 (by omega) hpl hps pok pln fun G2 H3 o5 o6 rvs rs e3 g3 hrl3 hrs rok rln => ?_)
  dsimp only
  refine u_seq (a_asgL pa_nil (by decide) fun cl hcl => ?_)
  dsimp only [gName]
  have g4 := g3.new (o := .lst []) hcl
  refine u_seq (l_codes P PWk g4 (by omega) hrl3 hrs rok rln fun G3 H4 o5 o6 o8 cvs e4 g5 hcl4 hcs => ?_)
  dsimp only
  refine u_seq (u_asg (l_kept (g5.ex _ _ hcl4) (dpAll_ex g5.ex _ hcs) rok rln rfl rfl (fun _ => rfl) (fun _ => rfl) fun kl H5 hkl e5 hkl5 => ?_))
  obtain ⟨G4, eG4, g6, eg6, K1, K2, K3, K4⟩ := g5.learn K (fun x hx => by cases hx) e5
  have hkl4 := K1 _ _ hkl hkl5
  dsimp only [gName]
  refine u_seq (u_asg (l_handed g6 (by omega) fun G5 H6 hdl hvs hws e6 g7 hhl hhs hln hw6 => ?_))
  dsimp only [gName]
  refine u_seq (u_asg (u_lst (u_cons (pv_c _ (u_cons (pv_c _ (u_cons ?_)))))))
  refine t_call (pa_cons (pv_var (v := .ref t) rfl) (pa_cons pv_c pa_nil)) (s_draw g7 (by omega) (by decide) fun H7 b g8 b0 b20 => ?_)
  refine u_cons (pv_c _ (pa_nil _ ⟨sz_of (by show 4 ≤ 100000; decide), fun bl hbl => ?_⟩))
  obtain ⟨g9, e9, h9⟩ := g8.addG (o := .lst [.int 60, .int 60, .int b, .int 0]) hbl
  have e49 := e6.trans e9
  have e39 := eG4.trans e49
  have e29 := e4.trans e39
  have LL : LK K _ rl cl hdl bl rvs cvs hvs rs hws [60, 60, b, 0] := ⟨e29 _ _ hrl3, dpAll_ex e29 _ hrs.dp, rok, rln, e39 _ _ hcl4, dpAll_ex e39 _ hcs, e9 _ _ hhl, dpAll_ex e9 _ hhs, hln, hw6, h9, rfl, fun x hx => by
    have : x = 60 ∨ x = 60 ∨ x = b ∨ x = 0 := by simpa using hx
    omega⟩
  have hklG := e49 _ _ hkl4
  dsimp only [gName]
  refine u_seq (u_asg fun dl hdl => ?_)
  have g10 := g9.new (o := .dT []) hdl
  dsimp only [gName]
  refine u_seq (l_turns P PWk LL g10 (by omega) fun G6 H8 o2 o5 o6 o9 o11 o15 o16 e10 g11 => ?_)
  have La := LL.ex e10
  dsimp only
  refine u_seq (l_zero P dw La g11 fun G7 H9 o2 o9 e11 g12 => ?_)
  have L3 := La.ex e11
  dsimp only
  obtain ⟨r, va, pv, oa, us, hr, hrm, hva, hva2, hpv, hoa, hus⟩ := L3.res (a := 0) (by decide) (by decide)
  have rk := rok r hrm
  obtain ⟨ca, vals, hca, C⟩ := L3.code (a := 0) (by decide) (by decide) hr
  obtain ⟨wa, hwa, hwt⟩ := dw
  have hcode : ∀ {G' H' : Hp} {σ : L2.St}, Ex G7 G' → Ex G' H' → σ[7]? = some (some (.ref cl)) → Pv (tOp (rIx K) (tVar 7) (tC (.int 0))) σ H' (.ref ca) := fun e1 e2 h => pv_op (pv_var (v := .ref cl) h) pv_c (pr_ixl (sq_of ((e1.trans e2) _ _ L3.hcl)) hca)
  refine u_seq (u_if (u_test (u_op ?_)))
  refine (pa_cons (hcode (Ex.refl _) g12.ex rfl) pa_nil) _ ?_
  show sp_run_rows K w [.ref ca, dflW K, .int 200] _ _ _
  rw [hwa]
  refine l_run P rk g12 (fun x hx => by cases hx) (ws := []) (C.ex g12.ex) (.inr (hwt _)) (by decide) (by decide) fun G8 H10 v1 e12 g13 d1 F1 => ?_
  refine u_callN (u_cons (hcode e12 g13.ex rfl _ (u_cons (t_tup pa_nil (by decide) fun p6 hp6 => ?_))))
  obtain ⟨g14, e13, h13⟩ := g13.addG (o := .tup []) hp6
  refine pa_nil _ (pa_cons pv_c pa_nil _ ⟨rfl, rfl, ?_⟩)
  refine l_run P rk g14 (fun x hx => by cases hx) (ws := []) (C.ex (e12.trans (e13.trans g14.ex))) (.inr (st_of (g14.ex _ _ h13))) (by decide) (by decide) fun G9 H11 v2 e14 g15 d2 F2 => ?_
  refine .inr (.inl ⟨_, _, dp_ex ((e13.trans e14).trans g15.ex) _ d1, dp_ex g15.ex _ d2, F1.shaped, F1.shaped, _, rfl, ?_⟩)
  rw [SeqAt.eqv_refl _ (sml_ok _ F1.sml).1]
  refine u_false (u_next ?_)
  have e79 := e12.trans (e13.trans e14)
  have L4 := L3.ex e79
  refine u_ret (u_op (l_kept (g15.ex _ _ L4.hcl) (dpAll_ex g15.ex _ L4.hcs) rok rln rfl rfl (fun _ => rfl) (fun _ => rfl) fun k2 H12 hk2 e15 hkl2 => ?_))
  have hklE := e15 _ _ (g15.ex _ _ (e79 _ _ (e11 _ _ (e10 _ _ hklG))))
  refine pv_var (v := .ref kl) rfl _ ?_
  have fitK : SeqAt.shaped (.list ((rs.map fun r => PyData.shown r.cd).map PyData.str)) = true := by
    unfold SeqAt.shaped
    rw [Bool.and_eq_true]
    constructor
    · show PyData.canLayAll0 _ = true
      have : ∀ l : List RS, (∀ r ∈ l, r.Ok) → PyData.canLayAll0 ((l.map fun r => PyData.shown r.cd).map PyData.str) = true := by
        intro l
        induction l with
        | nil => intro _; rfl
        | cons r l ih =>
          intro h
          have a := (sml_ok _ (rs_fit (h r (List.mem_cons_self ..))).sml).2.2
          have b := ih fun x hx => h x (List.mem_cons_of_mem _ hx)
          simp only [List.map_cons, PyData.canLayAll0, PyData.canLay0, a, b, Bool.and_self]
      exact this rs rok
    · refine decide_eq_true ?_
      have := depthAll_map PyData.str 0 (rs.map fun r => PyData.shown r.cd) fun _ _ => Nat.le_refl _
      simp only [PyData.depth]; omega
  have dk : ∀ {H' : Hp} {p : Addr}, H' p = some (.lst (keptV rs)) → Dp K H' (.ref p) (.list ((rs.map fun r => PyData.shown r.cd).map PyData.str)) := by
    intro H' p h
    have e : keptV rs = (rs.map fun r => PyData.shown r.cd).map V.str := by unfold keptV; rw [List.map_map]; rfl
    rw [e] at h
    exact .lst (sq_of h) (dpAll_strs _)
  refine .inr (.inl ⟨_, _, dk hkl2, dk hklE, fitK, fitK, ?_⟩)
  have hlay : PyData.canLay0 (.list ((rs.map fun r => PyData.shown r.cd).map PyData.str)) = true := by
    have := fitK
    unfold SeqAt.shaped at this
    rw [Bool.and_eq_true] at this
    exact this.1
  rw [SeqAt.eqv_refl _ hlay]
  refine k H12 ?_
  have ea := g15.ex.trans e15
  have eb := e79.trans ea
  have ec := e11.trans eb
  have ed := e10.trans ec
  have ee := e29.trans ed
  exact e2.trans (e3.trans ee)
end
end B72


set_option Elab.async false
set_option linter.all false
set_option maxRecDepth 100000
set_option maxHeartbeats 4000000
/-! E72: the end. -/
namespace B72
open PySem PySem.Spec PyProof.Rows L2 R72
section
variable {K : PySem.W.Frag} {w : World} {mg : Str → Option Value}
theorem getA_mem {α : Type} {es : List (Str × α)} {k : Str} {v : α} (h : getA es k = some v) : (k, v) ∈ es := by
  unfold getA at h
  obtain ⟨e, he, hv⟩ := Option.map_eq_some_iff.mp h
  have h1 := List.find?_some he
  have h2 := List.mem_of_find?_eq_some he
  have h1 : e.1 = k := of_decide_eq_true h1
  rw [← h1, ← hv]
  exact h2
theorem kdct_of {a : Addr} {k : Str} {v : V} (D : ∃ es n, KDict K w a es n) (h : ∃ u, PySem.W.nsIn K a k = some (some u) ∧ RelV v u) : KDct K w a k v := by
  obtain ⟨es, n, h1, h2, _⟩ := D
  obtain ⟨u, e, r⟩ := h
  exact ⟨es, n, u, h1, h2, e, r⟩
theorem tv_doings : H72.tv_DOINGS = (doings1 ++ doings2).map fun q => (q.1, He.Dv.glo q.2) := rfl
theorem tv_parts : H72.tv_PARTS = partsT.map fun q => (q.1, He.Dv.str q.2) := rfl
theorem tv_whys : H72.tv_WHYS = whys.map fun q => (q.1, He.Dv.str q.2) := rfl
theorem why_or : ∀ q ∈ partsT, q.1 ∈ H72.tn_WHYS ∧ (getA whys q.1).isSome = false ∨ (getA whys q.1).isSome = true := by decide +kernel
theorem pf_of (F : Facts K mg w) : PF K w where
  cF := F.cl_Frame
  fAhead := F.na_Frame_ahead
  fAt := F.na_Frame_at
  fLain := F.na_Frame_lain
  fNums := F.na_Frame_numbers
  cM := F.cl_Machine
  mCode := F.na_Machine_code
  mEnd := F.na_Machine_end
  mFrames := F.na_Machine_frames
  mLeft := F.na_Machine_left
  mLooks := F.na_Machine_looks
  mMany := F.na_Machine_many
  mMem := F.na_Machine_memory
  mMost := F.na_Machine_most
  mTold := F.na_Machine_told
  mTop := F.na_Machine_top
  mWide := F.na_Machine_wide
  doing := fun k f h => kdct_of F.kd_DOINGS (F.v_DOINGS (k, .glo f) (by
    rw [tv_doings]
    exact List.mem_map.mpr ⟨(k, f), List.mem_append.mpr h, rfl⟩))
  parts := fun k v h => kdct_of F.kd_PARTS (F.v_PARTS (k, .str v) (by
    rw [tv_parts]
    exact List.mem_map.mpr ⟨(k, v), getA_mem h, rfl⟩))
  why := fun k v h => kdct_of F.kd_WHYS (F.v_WHYS (k, .str v) (by
    rw [tv_whys]
    exact List.mem_map.mpr ⟨(k, v), getA_mem h, rfl⟩))
theorem pw_of (F : Facts K mg w) : PW K := ⟨fun k hk => by
  obtain ⟨v, hv⟩ := Option.isSome_iff_exists.mp hk
  rcases why_or _ (getA_mem hv) with ⟨h1, h2⟩ | h1
  · exact ⟨none, F.a_WHYS k h1, h2.symm⟩
  · obtain ⟨y, hy⟩ := Option.isSome_iff_exists.mp h1
    obtain ⟨u, hu, _⟩ := F.v_WHYS (k, .str y) (by
      rw [tv_whys]
      exact List.mem_map.mpr ⟨(k, y), getA_mem hy, rfl⟩)
    exact ⟨some u, hu, h1.symm⟩⟩
theorem dfl_of (F : Facts K mg w) : Dfl K := ⟨_, rfl, F.e_run_rows_0⟩
/-- the script, known to the walk unless it is the module's own -/
def scr (K : PySem.W.Frag) (a : Addr) (ob : Obj) (xs : List V) : Hp := fun b => if b = a ∧ K.lookup a = none then some (.frz ob (.lst xs)) else none
theorem scr_some {a b : Addr} {ob : Obj} {xs : List V} {u : HO} (h : scr K a ob xs b = some u) : b = a ∧ K.lookup a = none ∧ u = .frz ob (.lst xs) := by
  unfold scr at h
  split at h
  · rename_i c
    exact ⟨c.1, c.2, (Option.some.inj h).symm⟩
  · cases h
theorem scr_none {a b : Addr} {ob : Obj} {xs : List V} (h : b ≠ a ∨ K.lookup a ≠ none) : scr K a ob xs b = none := by
  unfold scr
  rw [if_neg]
  rintro ⟨h1, h2⟩
  exact h.elim (fun z => z h1) fun z => z h2
theorem law_ends {prog : Program} {mb : Str → Option Value} {fa a : Addr} {fd : FuncData} {s1 : Shared} {us : List Value} {ns : List Int}
    (F : Facts K mg w) (FD : FunD K "law" "law" (defArgs H72.s_law) (defBody H72.s_law) (defScope H72.s_law) [] [] fa fd)
    (inK : K.In s1.heap) (glob : s1.heap.Ns mainGlobals mg) (blt : s1.heap.Ns builtinsNs mb) (bltn : ∀ x : Str, x ≠ "__name__" → mb x = bootBuiltins x) (nolim : s1.heap.NoLimit) (nog : s1.gens = #[])
    (lies : s1.heap.get? a = some { cls := .type "list", data := .seq us.toArray }) (hns : IntsAre us ns) (most : ns.length ≤ 63) :
    codeAny (model prog w) callerA (.call (.ref fa) ⟨[.ref a], []⟩) (fun r s' => r = .ok (.ret (.bool true)) ∧ OldK s1.heap s'.heap ∧ s'.os = s1.os ∧ AllBare s'.gens) s1 := by
  have vu := vals_ints hns
  obtain ⟨H, hH⟩ : ∃ H : Hp, H = scr K a { cls := .type "list", data := .seq us.toArray } (ns.map V.int) := ⟨_, rfl⟩
  have some_at : ∀ {b : Addr} {u : HO}, H b = some u → b = a ∧ K.lookup a = none ∧ u = .frz { cls := .type "list", data := .seq us.toArray } (.lst (ns.map V.int)) := fun h => by
    rw [hH] at h
    exact scr_some h
  have hsz : (ns.map V.int).length ≤ sizeLine := by rw [List.length_map]; exact Nat.le_trans most (by decide)
  -- the script is read
  have hS : SqL K H a (ns.map V.int) := by
    cases q : K.lookup a with
    | none =>
      left; right
      exact ⟨_, by rw [hH]; unfold scr; rw [if_pos ⟨rfl, q⟩]⟩
    | some o =>
      right
      have e := inK a o q
      rw [lies] at e
      cases e
      have l := hns.length
      exact ⟨_, us.toArray, _, q, rfl, rfl, rfl, by rw [List.size_toArray]; rw [List.length_map] at hsz; omega, by simpa using vu⟩
  have hok : HOk prog w H s1.heap := fun b u h => by
    obtain ⟨rfl, _, rfl⟩ := some_at h
    exact ⟨lies, hsz, us, _, vu, lies⟩
  -- what is not the script stays in the base
  have keep : ∀ {b : Addr} {o : Obj}, s1.heap.get? b = some o → (∀ xs n, o.data ≠ .seq xs n) → (hidT s1.heap H).get? b = some o := fun {b o} e n => by
    refine hidT_get e ?_
    cases q : H b with
    | none => rfl
    | some u =>
      obtain ⟨rfl, _, _⟩ := some_at q
      rw [lies] at e
      cases e
      exact absurd rfl (n _ _)
  have keepN : ∀ {b : Addr} {m : Str → Option Value}, s1.heap.Ns b m → (hidT s1.heap H).Ns b m := fun {b m} ⟨o, es, ep, e, d, r⟩ => ⟨o, es, ep, keep e (fun xs n z => by rw [d] at z; cases z), d, r⟩
  have inB : K.In (hidT s1.heap H) := fun b o e => hidT_get (inK b o e) (by
    cases q : H b with
    | none => rfl
    | some u =>
      obtain ⟨rfl, z, _⟩ := some_at q
      rw [z] at e
      cases e)
  have lim : ∃ mc, (hidT s1.heap H).Ns _ mc ∧ _ := let ⟨mc, h1, h2⟩ := nolim; ⟨mc, keepN h1, h2⟩
  have e0 : Env0 prog w K mg (hidT s1.heap H) callerA [] s1 H := {
    frames := rfl
    mod := ⟨inB, keepN glob, ⟨mb, keepN blt, bltn⟩, lim⟩
    bs := fun b o e => of_hidT e
    bsz := Nat.le_of_eq (hidT_size _ _)
    funs := trivial
    frf := fun b hb => nomatch hb
    hok := hok
    bare := .of_eq nog }
  have room : Room 9 callerA := ⟨rfl, by decide, by decide⟩
  obtain ⟨oc, od, dV, kV, doc, pm, an, cdv, ct, osl, efd, lk, hcd, _, _⟩ := FD.ex
  have hb := FD.bindsA (ps := ["script"]) (fun _ _ _ _ _ _ us hl => match us, hl with | [_], _ => rfl) s1 [.ref a] rfl
  subst efd
  have run : codeAny (model prog w) callerA (.call (.ref fa) ⟨[.ref a], []⟩) (L2.CR CX0 [] prog w H s1 (fun v _ => v = V.bl true) C8.E0) s1 := by
    refine codeAny_call_function room.depth (inK _ _ lk) rfl sc_law.co sc_law.gen rfl (PySem.W.codeRec_of inK hcd) (hb _ _ _ _ ?_)
    have kinds : ∀ y ∈ (["script"] : List Str).zip [Value.ref a], (defScope H72.s_law).names.lookup y.1 = some .local ∨ ((defScope H72.s_law).names.lookup y.1 = some .cell ∧ ((cellsFrom (s1.heap.objs.size + 1) (defScope H72.s_law).names []).lookup y.1).isSome = true) := fun y hy => by
      have ey : y = (("script" : Str), Value.ref a) := List.mem_singleton.mp hy
      subst ey
      exact (sc_law.par "script" (List.mem_singleton.mpr rfl)).imp id fun z => ⟨z, PySem.W.cellsFrom_some _ _ _ (.inl z)⟩
    refine wpAny_newFunctionEnv_cells sc_law.kind kinds fun env he s2 x => ?_
    subst he
    refine ⟨nolim.keeps x.toInCall.keep, codeAny_func ?_⟩
    have start1 := inv_start (CX := CX0) (E := C8.E0) (cd := cdv) (us := [.ref a]) (vs := [V.ref a]) sc_law rfl e0 rfl (.cons rfl .nil) x
    have walk := (body_law (P := prog) (base := hidT s1.heap H) F (f := fa) (cdv := cdv) (A := callerA) (outer := []) (s := s1) (H := H) (E := C8.E0) (room.deeper _) rfl).nox
    have told := (s_law (K := K) (w := w) (H := H) (Q := fun v _ => v = V.bl true) (E := C8.E0) (pf_of F) (pw_of F) (dfl_of F) hS (by omega) fun _ _ => rfl).2
    refine wpAny_mono (walk.run [] s2 _ H _ start1 told) (fun fl s' h => ?_) fun _ _ h => h
    cases fl with
    | next =>
      obtain ⟨_, _, _, q⟩ := h
      cases (show V.non = V.bl true from q)
    | brk =>
      obtain ⟨_, _, _, q⟩ := h
      exact q.elim
    | cont =>
      obtain ⟨_, _, _, q⟩ := h
      exact q.elim
    | ret u =>
      obtain ⟨v, _, H', J, rv, q⟩ := h
      exact ⟨v, H', J.os, J.bare, J.base, J.hok, rv, q⟩
  refine codeAny_mono run fun r s' h => ?_
  cases r with
  | error e => exact (show False from h).elim
  | ok fl =>
    cases fl with
    | next => exact (show False from h).elim
    | brk => exact (show False from h).elim
    | cont => exact (show False from h).elim
    | ret u =>
      obtain ⟨v, H', os, bare, un, hok', rv, q⟩ := h
      have q : v = V.bl true := q
      subst q
      have ru : u = Value.bool true := rv
      subst ru
      refine ⟨rfl, OldK.of_keep fun b o e => ?_, os, bare⟩
      cases z : H b with
      | none => exact un.keep b o e z (fun y => nomatch y) (fun y => nomatch y)
      | some u =>
        obtain ⟨_, _, rfl⟩ := some_at z
        have k1 := hok b _ z
        have k2 := hok' b _ (un.frzs b _ _ z)
        rw [k1.1] at e
        rw [← e]
        exact k2.1
end
end B72


set_option Elab.async false
set_option linter.all false
set_option maxRecDepth 100000
set_option maxHeartbeats 0
open PySem PySem.W PySem.Calls PyProof.Rows
theorem PySem.Challenge.cw_withinall_k72_machines_by_turns_holds : PySem.Challenge.rw_withinall_k72_machines_by_turns.Holds := by
  w_on; o_law
  refine HandSHeadRun.head_any (r := OpenLaw.row PySem.Challenge.rw_withinall_k72_machines_by_turns) (q := view (OpenLaw.row PySem.Challenge.rw_withinall_k72_machines_by_turns).prog [58]) (H := H72.hk) (ob := H72.ob) (M := 4000) (loose := H72.names) (d := HandSHeadRun.topDef (OpenLaw.row PySem.Challenge.rw_withinall_k72_machines_by_turns).prog 58) (kwd := []) H72.ob_eq
    (by kernel_rfl) (fun s => by kernel_rfl) H72.run (by kernel_rfl) (by kernel_rfl) (by kernel_rfl) (by rfl) (by first | assumption | decide +kernel) (by decide +kernel) ⟨rfl, rfl, rfl, rfl, rfl, by decide +kernel⟩ ?hw ?hc
  case hw => w_witness2
  case hc =>
    refine Att.attach_call (n := 63) rfl (by kernel_rfl) fun w s0 s1 mg mb fa o pm cd doc a vs ns G Y _ _ _ named lies hns most nog => ?_
    obtain ⟨K, inK, c⟩ := Y
    have F := R72.facts_of inK G.T.g c
    obtain ⟨fd, FD⟩ := F.d_law
    have nm : mg ("law" : PySem.Str) = some (.ref fa) := by
      have e : (HandSHeadRun.topDef (OpenLaw.row PySem.Challenge.rw_withinall_k72_machines_by_turns).prog 58).name = ("law" : PySem.Str) := by kernel_rfl
      rw [← e]
      exact named
    cases nm.symm.trans F.g_law
    exact B72.law_ends F FD inK G.T.g G.T.b G.T.builtins G.T.nolimit nog lies hns most
