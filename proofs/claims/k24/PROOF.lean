import PyProof.Rows.All
import Wide.All
import OpenK.AllK
import Wide.FinOn
import KE.KStateDown
import Lean
import HandS.ForMost
import HandS.Style
import HandS.IsInst
import HandS.Wide
import HandS.Defaults
import HandS.WordsExc
import HandS.Head0
import HandS.Head1
import HandS.Head2
import HandS.HeadEnd
import HandS.HeadHook1
import HandS.HeadHook2
import PyProof.StrOps2
import HandS.Nested
import HandS.ExcInit
import HandS.ExcField
import HandS.ExcIs
import HandS.ExcOwn
import HandS.TryMany
import HandS.SuiteRaise
import KE.KExcSuper
import KE.KSuper
import KE.KOpsOwn
import HandS.IterVal
import HandS.Star
import KE.GoesMore
import HandS.Strs
import KE.KOwnIter
import KE.KCallOwn
import KE.SortKeyHeap
import PyProof.SeqIndex
import PyProof.TupleOfSeq
import HandS.Lambda
import HandS.EndTab
import HandS.HeadWalk
import KE.KNestM
import PySem.Challenge.RW_takenorelse_k24_order_of_names
set_option Elab.async false
set_option linter.all false
set_option maxRecDepth 100000
set_option maxHeartbeats 4000000
/-! Own toolkit, part a: rules for operators whatever the kind of their operands; a list of a promise seen from outside as one thing that does not change. -/
namespace TK
open PySem PySem.Spec PyProof.Rows L2
section ops
variable {X : Cx}
/-- x is True, x is False, whatever x is -/
def rIsA : R2 := fun x y H Q => ∃ b, y = .bl b ∧ Q (.bl (decide (x = .bl b))) H
def rIsnotA : R2 := fun x y H Q => ∃ b, y = .bl b ∧ Q (.bl (!decide (x = .bl b))) H
theorem RelV.bool_iff {x : V} {v : Value} {b : Bool} (r : RelV x v) : (v == Value.bool b) = decide (x = .bl b) ∧ plainIs v (.bool b) = true := by
  cases x with
  | non => cases r; exact ⟨rfl, rfl⟩
  | bl c => cases r; exact ⟨by cases c <;> cases b <;> rfl, rfl⟩
  | int _ => obtain ⟨t, rfl⟩ := r; exact ⟨rfl, rfl⟩
  | str _ => obtain ⟨t, rfl⟩ := r; exact ⟨rfl, rfl⟩
  | byt _ => obtain ⟨t, rfl⟩ := r; exact ⟨rfl, rfl⟩
  | flt _ => obtain ⟨t, rfl⟩ := r; exact ⟨rfl, rfl⟩
  | ref _ => cases r; exact ⟨rfl, rfl⟩
  | ty _ => cases r; exact ⟨rfl, rfl⟩
theorem op_isA : OpR X (compareOp .Is) rIsA := by
  intro pins s σ H x y v u Q I rx ry h
  obtain ⟨b, rfl, q⟩ := h
  cases (show u = Value.bool b from ry)
  obtain ⟨e1, e2⟩ := RelV.bool_iff (b := b) rx
  exact wpAny_is_plain e2 ⟨.bl _, H, I, by rw [e1]; rfl, q⟩
theorem op_isnotA : OpR X (compareOp .IsNot) rIsnotA := by
  intro pins s σ H x y v u Q I rx ry h
  obtain ⟨b, rfl, q⟩ := h
  cases (show u = Value.bool b from ry)
  obtain ⟨e1, e2⟩ := RelV.bool_iff (b := b) rx
  exact wpAny_isNot_plain e2 ⟨.bl _, H, I, by rw [e1]; rfl, q⟩
abbrev rAddI : R2 := rI0 fun i j => .int (i + j)
def rAddS : R2 := fun x y H Q => ∃ i j, x = .str i ∧ y = .str j ∧ i.length + j.length ≤ sizeLine ∧ Q (.str (i ++ j)) H
/-- + of ints, texts, lists, tuples -/
abbrev rAddA (K : PySem.W.Frag) : R2 := fun x y H Q => rAddI x y H Q ∨ rAddS x y H Q ∨ rCat x y H Q ∨ rCatT K x y H Q
theorem op_addA : OpR X (binaryOp .Add) (rAddA X.K) := op_add.or ((op_add_str : OpR X (binaryOp .Add) rAddS).or (op_cat.or op_catT))
abbrev rMulA : R2 := rI CMul fun i j => .int (i * j)
theorem op_mulA : OpR X (binaryOp .Mult) rMulA := op_mul
abbrev rIxA (K : PySem.W.Frag) : R2 := rIx K
theorem ix_A : IxR X (rIxA X.K) := ix_seq
theorem SlR.or {r r' : V → Option Int → Option Int → Hp → VK → Prop} (h : SlR X r) (h' : SlR X r') : SlR X (fun x l u H Q => r x l u H Q ∨ r' x l u H Q) := by
  intro pins s σ H x v vl vu lo hi sl Q I rx hs pl pu q
  rcases q with q | q
  · exact h pins s σ H x v vl vu lo hi sl Q I rx hs pl pu q
  · exact h' pins s σ H x v vl vu lo hi sl Q I rx hs pl pu q
/-- x[a:b] of a text, a list, a tuple -/
theorem sl_A : SlR X (fun x l u H Q => rSlS x l u H Q ∨ rSlL X.K x l u H Q ∨ rSlT X.K x l u H Q) := SlR.or sl_str (SlR.or sl_list sl_tup)
theorem CallR.or {f : Value} {r r' : List V → Hp → VK → Prop} (h : CallR X f r) (h' : CallR X f r') : CallR X f (fun xs H Q => r xs H Q ∨ r' xs H Q) := by
  intro pins s σ H vs us Q I r1 q
  rcases q with q | q
  · exact h pins s σ H vs us Q I r1 q
  · exact h' pins s σ H vs us Q I r1 q
def rLenS : List V → Hp → VK → Prop := fun xs H Q => ∃ z, xs = [.str z] ∧ z.length ≤ sizeLine ∧ Q (.int z.length) H
def rLenL (K : PySem.W.Frag) : List V → Hp → VK → Prop := fun xs H Q => ∃ p ys, xs = [.ref p] ∧ (SqL K H p ys ∨ SqT K H p ys) ∧ Q (.int ys.length) H
theorem call_lenA : CallR X (.builtin "len") (fun xs H Q => rLenS xs H Q ∨ rLenL X.K xs H Q) := CallR.or (r := rLenS) (r' := rLenL X.K) call_len_str call_len_seq
def rInSign : R2 := fun x y H Q => ∃ (c : Nat) (z : Str), x = .str ⟨#[c]⟩ ∧ y = .str z ∧ Q (.bl (decide (c ∈ z.cps.toList))) H
def rNinSign : R2 := fun x y H Q => ∃ (c : Nat) (z : Str), x = .str ⟨#[c]⟩ ∧ y = .str z ∧ Q (.bl (!decide (c ∈ z.cps.toList))) H
def rInQ (K : PySem.W.Frag) : R2 := fun x y H Q => ∃ p xs, y = .ref p ∧ (SqL K H p xs ∨ SqT K H p xs) ∧ flatV x = true ∧ xs.all flatV = true ∧ Q (.bl (inV x xs)) H
def rNinQ (K : PySem.W.Frag) : R2 := fun x y H Q => ∃ p xs, y = .ref p ∧ (SqL K H p xs ∨ SqT K H p xs) ∧ flatV x = true ∧ xs.all flatV = true ∧ Q (.bl (!inV x xs)) H
theorem op_inQ : OpR X (compareOp .In) (rInQ X.K) := op_in_seq
theorem op_ninQ : OpR X (compareOp .NotIn) (rNinQ X.K) := op_notIn_seq
/-- x in y: a sign in a text; a flat thing in a list or a tuple -/
theorem op_inA : OpR X (compareOp .In) (fun x y H Q => rInSign x y H Q ∨ rInQ X.K x y H Q) := OpR.or (r := rInSign) op_in_sign op_inQ
theorem op_ninA : OpR X (compareOp .NotIn) (fun x y H Q => rNinSign x y H Q ∨ rNinQ X.K x y H Q) := OpR.or (r := rNinSign) op_notIn_sign op_ninQ
end ops
/-! ### a list that its users see as one thing -/
/-- at st stands a list whose items are so -/
def lsat (S : List V → Prop) (st : Addr) : Heap → Prop := fun h => ∃ xs, S xs ∧ xs.length ≤ sizeLine ∧ ∃ (its : List Value) (n : Nat), Vals xs its ∧ h.get? st = some { cls := .type "list", data := .seq its.toArray n }
section view
variable {P : Program} {w : World} {K : PySem.W.Frag} {mg : Str → Option Value} {base : Heap} {H H' : Hp} {h h' : Heap} {st : Addr} {S : List V → Prop} {xs : List V} {u : HO}
theorem hok_swap {o : HO} (x : HOk P w H h) (hs : H st = some u) (hu : ∀ y, u ≠ .own y) (ht : ∀ y, u ≠ .tup y) (new : ObjOk P w (upd H st o) h st o) : HOk P w (upd H st o) h := fun b v e => by
  by_cases hb : b = st
  · subst hb; rw [upd_same] at e; cases e; exact new
  · rw [upd_ne hb] at e
    refine (x b v e).stay (fun c v _ q => q) (fun c q => ?_) fun c ys q => ?_
    · have : c ≠ st := fun z => by subst z; rw [hs] at q; cases q; exact hu _ rfl
      rw [upd_ne this]; exact q
    · have : c ≠ st := fun z => by subst z; rw [hs] at q; cases q; exact ht _ rfl
      rw [upd_ne this]; exact q
theorem open_lsat (x : HOk P w H h) (hs : H st = some (.ext (lsat S st))) : ∃ xs, S xs ∧ HOk P w (upd H st (.lst xs)) h := by
  obtain ⟨⟨xs, s1, z, its, n, r, e⟩, _, _⟩ := x st _ hs
  exact ⟨xs, s1, hok_swap x hs (fun _ => nofun) (fun _ => nofun) ⟨z, its, n, r, e⟩⟩
theorem shut_lsat (x : HOk P w H h) (hs : H st = some (.lst xs)) (sx : S xs) : HOk P w (upd H st (.ext (lsat S st))) h := by
  obtain ⟨z, its, n, r, e⟩ := x st _ hs
  refine hok_swap x hs (fun _ => nofun) (fun _ => nofun) ⟨⟨xs, sx, z, its, n, r, e⟩, ⟨_, e⟩, fun h1 h2 q k => ?_⟩
  obtain ⟨xs, sx, z, its, n, r, e⟩ := q
  exact ⟨xs, sx, z, its, n, r, k _ e⟩
theorem un_open {fs ex : List Addr} {o : HO} (x : Un fs ex (upd H st o) H' h h') (hs : H st = some u) (ht : ∀ y, u ≠ .tup y) (hf : ∀ a b, u ≠ .frz a b) (hl : ∀ a, u ≠ .tbl a) : Un fs ex H H' h h' := by
  have ne : ∀ b, H b = none → (upd H st o) b = none := fun b e => by
    have : b ≠ st := fun z => by subst z; rw [hs] at e; cases e
    rw [upd_ne this]; exact e
  refine ⟨fun b ob q n => x.keep b ob q (ne b n), fun b ob q n => x.slot b ob q (ne b n), fun b ob q n => x.free b ob q (ne b n), x.there, fun b ys q => ?_, fun b o v q => ?_, fun b ps q => ?_⟩
  · have : b ≠ st := fun z => by subst z; rw [hs] at q; cases q; exact ht _ rfl
    exact x.tups b ys (by rw [upd_ne this]; exact q)
  · have : b ≠ st := fun z => by subst z; rw [hs] at q; cases q; exact hf _ _ rfl
    exact x.frzs b o v (by rw [upd_ne this]; exact q)
  · have : b ≠ st := fun z => by subst z; rw [hs] at q; cases q; exact hl _ rfl
    exact x.tbls b ps (by rw [upd_ne this]; exact q)
theorem un_shut {fs ex : List Addr} {o : HO} (x : Un fs ex H H' h h') (hs : H' st = some u) (ht : ∀ y, u ≠ .tup y) (hf : ∀ a b, u ≠ .frz a b) (hl : ∀ a, u ≠ .tbl a) : Un fs ex H (upd H' st o) h h' := by
  refine ⟨x.keep, x.slot, fun b ob q n hx => ?_, x.there, fun b ys q => ?_, fun b o v q => ?_, fun b ps q => ?_⟩
  · have e := x.free b ob q n hx
    have : b ≠ st := fun z => by subst z; rw [hs] at e; cases e
    rw [upd_ne this]; exact e
  · have e := x.tups b ys q
    have : b ≠ st := fun z => by subst z; rw [hs] at e; cases e; exact ht _ rfl
    rw [upd_ne this]; exact e
  · have e := x.frzs b o v q
    have : b ≠ st := fun z => by subst z; rw [hs] at e; cases e; exact hf _ _ rfl
    rw [upd_ne this]; exact e
  · obtain ⟨m, e⟩ := x.tbls b ps q
    have : b ≠ st := fun z => by subst z; rw [hs] at e; cases e; exact hl _ rfl
    exact ⟨m, by rw [upd_ne this]; exact e⟩
variable {k : Nat} {f : Addr} {fd : FuncData} {ps : List Str} {sp sp' : Sp}
/-- a def that works on the list at st, told to those who see it as one thing -/
theorem fn_view (F : FnOk P w K mg base CX0 k f fd ps sp) (hl : ∀ vs H Q E, sp' vs H Q E → vs.length = ps.length)
    (hv : ∀ vs H Q E, sp' vs H Q E → ∃ st S, H st = some (.ext (lsat S st)) ∧ ∀ xs, S xs → sp vs (upd H st (.lst xs)) (fun v H' => ∃ xs', S xs' ∧ H' st = some (.lst xs') ∧ Q v (upd H' st (.ext (lsat S st)))) E) :
    FnOk P w K mg base CX0 k f fd ps sp' := by
  refine ⟨hl, fun A outer s H args us vs Q E hr e0 hb rv hsp => ?_⟩
  obtain ⟨st, S, hs, hS⟩ := hv vs H Q E hsp
  obtain ⟨xs, sx, hok⟩ := open_lsat e0.hok hs
  have ne : ∀ b o, H b = none → (upd H st o) b = none := fun b o e => by
    have : b ≠ st := fun z => by subst z; rw [hs] at e; cases e
    rw [upd_ne this]; exact e
  have e1 : Env0 P w K mg base A outer s (upd H st (.lst xs)) := ⟨e0.frames, e0.mod, fun b o e => ⟨(e0.bs b o e).1, ne b _ (e0.bs b o e).2⟩, e0.bsz, e0.funs, fun b hb => ne b _ (e0.frf b hb), hok, e0.bare⟩
  refine codeAny_mono (F.run A outer s _ args us vs _ E hr e1 hb rv (hS xs sx)) fun r s' h => ?_
  cases r with
  | error e => exact h
  | ok fl =>
    cases fl with
    | ret v =>
      obtain ⟨v, H', os, bare, un, hok', r', xs', sx', hs', q⟩ := h
      exact ⟨v, _, os, bare, un_shut (un_open un hs (fun _ => nofun) (fun _ _ => nofun) (fun _ => nofun)) hs' (fun _ => nofun) (fun _ _ => nofun) (fun _ => nofun), shut_lsat hok' hs' sx', r', q⟩
    | next => exact h
    | brk => exact h
    | cont => exact h
/-- a def that makes the list -/
theorem fn_seal (F : FnOk P w K mg base CX0 k f fd ps sp) (hl : ∀ vs H Q E, sp' vs H Q E → vs.length = ps.length)
    (hv : ∀ vs H Q E, sp' vs H Q E → sp vs H (fun v H' => ∃ st S xs', S xs' ∧ H' st = some (.lst xs') ∧ Q v (upd H' st (.ext (lsat S st)))) E) :
    FnOk P w K mg base CX0 k f fd ps sp' := by
  refine ⟨hl, fun A outer s H args us vs Q E hr e0 hb rv hsp => ?_⟩
  refine codeAny_mono (F.run A outer s _ args us vs _ E hr e0 hb rv (hv vs H Q E hsp)) fun r s' h => ?_
  cases r with
  | error e => exact h
  | ok fl =>
    cases fl with
    | ret v =>
      obtain ⟨v, H', os, bare, un, hok', r', st, S, xs', sx', hs', q⟩ := h
      exact ⟨v, _, os, bare, un_shut un hs' (fun _ => nofun) (fun _ _ => nofun) (fun _ => nofun), shut_lsat hok' hs' sx', r', q⟩
    | next => exact h
    | brk => exact h
    | cont => exact h
end view
end TK
namespace TK
open PySem PySem.Spec PyProof.Rows L2
section
variable {X : Cx}
theorem op_ltA : OpR X (compareOp .Lt) (rI0 fun i j => .bl (decide (i < j))) := op_lt
theorem op_eqA : OpR X (compareOp .Eq) rEq := op_eq
theorem op_neA : OpR X (compareOp .NotEq) rNe := op_ne
theorem set_A : PSet X rSetL := set_list
end
/-! ### the law's own draws -/
/-- what a draw may be below -/
theorem big_ex : ∃ b : Int, ((2 : Int) ^ 63 < b ∧ (10 : Int) ^ 40 < b) ∧ b ≤ 2 ^ 8000 := ⟨2 ^ 8000, by decide +kernel, by decide +kernel⟩
noncomputable def BIG : Int := Classical.choose big_ex
theorem lt_big {i : Int} (h : i < 2 ^ 63) : i < BIG := by
  have : (2 : Int) ^ 63 < BIG := (Classical.choose_spec big_ex).1.1
  omega
theorem lt_big40 {i : Int} (h : i < 10 ^ 40) : i < BIG := Int.lt_trans h (Classical.choose_spec big_ex).1.2
theorem line_big {n : Nat} (h : n ≤ sizeLine) : (n : Int) < BIG := lt_big (by rw [sizeLine_eq] at h; omega)
/-- the items of the list of draws: the script's copy at q, the place, the number, the mode, the count -/
def StS (q : Addr) (n : Nat) (xs : List V) : Prop := ∃ i v m c : Int, xs = [.ref q, .int i, .int v, .int m, .int c] ∧ 0 ≤ i ∧ i ≤ (n : Int)
/-- the list of draws stands at st -/
def StAt (H : Hp) (st : Addr) : Prop := ∃ (q : Addr) (ns : List Int), ns.length ≤ 63 ∧ H q = some (.lst (ns.map V.int)) ∧ H st = some (.ext (lsat (StS q ns.length) st))
theorem StAt.mono {H H' : Hp} {st : Addr} (s : Same H H') (h : StAt H st) : StAt H' st := by
  obtain ⟨q, ns, z, h1, h2⟩ := h
  exact ⟨q, ns, z, s _ _ h1, s _ _ h2⟩
/-- what a draw does to the list itself -/
def sp_draw0 : Sp := fun vs H Q _ => ∃ (st q : Addr) (ns : List Int) (xs : List V) (many : Int), vs = [.ref st, .int many] ∧ ns.length ≤ 63 ∧ H q = some (.lst (ns.map V.int)) ∧ H st = some (.lst xs) ∧ StS q ns.length xs ∧ 0 < many ∧ many < BIG ∧
  ∀ (d : Int) (xs' : List V) (H' : Hp), H' st = some (.lst xs') → StS q ns.length xs' → (∀ b o, b ≠ st → H b = some o → H' b = some o) → 0 ≤ d → d < many → Q (.int d) H'
/-- a draw, as its users see it: some number from 0 to below many -/
def sp_draw : Sp := fun vs H Q _ => ∃ (st : Addr) (many : Int), vs = [.ref st, .int many] ∧ StAt H st ∧ 0 < many ∧ many < BIG ∧ ∀ (d : Int) (H' : Hp), Same H H' → 0 ≤ d → d < many → Q (.int d) H'
theorem draw_view {P : Program} {w : World} {K : PySem.W.Frag} {mg : Str → Option Value} {base : Heap} {k : Nat} {f : Addr} {fd : FuncData} (F : FnOk P w K mg base CX0 k f fd ["state", "many"] sp_draw0) : FnOk P w K mg base CX0 k f fd ["state", "many"] sp_draw := by
  refine fn_view F (fun vs H Q E h => ?_) fun vs H Q E h => ?_
  · obtain ⟨_, _, rfl, _⟩ := h; rfl
  · obtain ⟨st, many, rfl, ⟨q, ns, z, h1, h2⟩, m0, m1, k⟩ := h
    have nq : q ≠ st := ne_of h1 h2 nofun
    refine ⟨st, _, h2, fun xs sx => ⟨st, q, ns, xs, many, rfl, z, by rw [upd_ne nq]; exact h1, upd_same, sx, m0, m1, fun d xs' H' e1 e2 kp d0 d1 => ⟨xs', e2, e1, k d _ (fun b o e => ?_) d0 d1⟩⟩⟩
    by_cases hb : b = st
    · subst hb; rw [h2] at e; cases e; exact upd_same
    · rw [upd_ne hb]; exact kp b o hb (by rw [upd_ne hb]; exact e)
/-- state = [list(script), 0, 0, 0, 0] -/
def sp_state (K : PySem.W.Frag) : Sp := fun vs H Q _ => ∃ (a : Addr) (ns : List Int), vs = [.ref a] ∧ SqL K H a (ns.map V.int) ∧ ns.length ≤ 63 ∧ ∀ (st : Addr) (H' : Hp), Same H H' → StAt H' st → Q (.ref st) H'
def sp_state0 (K : PySem.W.Frag) : Sp := fun vs H Q _ => ∃ (a : Addr) (ns : List Int), vs = [.ref a] ∧ SqL K H a (ns.map V.int) ∧ ns.length ≤ 63 ∧
  ∀ (q st : Addr) (H' : Hp), Same H H' → H st = none → H' q = some (.lst (ns.map V.int)) → H' st = some (.lst [.ref q, .int 0, .int 0, .int 0, .int 0]) → Q (.ref st) H'
theorem state_seal {P : Program} {w : World} {K : PySem.W.Frag} {mg : Str → Option Value} {base : Heap} {k : Nat} {f : Addr} {fd : FuncData} (F : FnOk P w K mg base CX0 k f fd ["script"] (sp_state0 K)) : FnOk P w K mg base CX0 k f fd ["script"] (sp_state K) := by
  refine fn_seal F (fun vs H Q E h => ?_) fun vs H Q E h => ?_
  · obtain ⟨_, _, rfl, _⟩ := h; rfl
  · obtain ⟨a, ns, rfl, hS, z, k⟩ := h
    refine ⟨a, ns, rfl, hS, z, fun q st H' sm n0 e1 e2 => ⟨st, StS q ns.length, _, ⟨0, 0, 0, 0, rfl, Int.le_refl _, by omega⟩, e2, k st _ (fun b o e => ?_) ⟨q, ns, z, ?_, upd_same⟩⟩⟩
    · have : b ≠ st := fun z => by subst z; rw [n0] at e; cases e
      rw [upd_ne this]; exact sm _ _ e
    · have : q ≠ st := ne_of e1 e2 (by
        intro z
        have z1 : ns.map V.int = [.ref q, .int 0, .int 0, .int 0, .int 0] := by injection z
        cases ns with
        | nil => cases z1
        | cons n r => cases z1)
      rw [upd_ne this]; exact e1
theorem same_new {H : Hp} {p : Addr} {o : HO} (h : H p = none) : Same H (upd H p o) := fun b u q => by rw [upd_ne (ne_of_none q h)]; exact q
end TK
namespace TK
open PySem PySem.Spec PyProof.Rows L2
/-- a statement, then the rest, with a word of one's own between them -/
def tCutT (t u : TS) : TS := fun D σ H => ∃ Mid : L2.St → Hp → Prop, t { D with nx := Mid } σ H ∧ ∀ σ' H', Mid σ' H' → u D σ' H'
theorem pss_cutT {X : Cx} {st : Stmt} {rest : List Stmt} {t u : TS} (h1 : PS X st t) (h2 : PSs X rest u) : PSs X (st :: rest) (tCutT t u) := by
  refine ⟨fun pins s σ H D I h => ?_⟩
  obtain ⟨Mid, hm, hu⟩ := h
  refine wpAny_execs_cons (thn (h1.run pins s σ H { D with nx := Mid } I hm) fun f s1 q => ?_)
  cases f with
  | next =>
    obtain ⟨σ', H', I', q⟩ := q
    exact h2.run pins s1 σ' H' D I' (hu σ' H' q)
  | ret v => exact q
  | brk => exact q
  | cont => exact q
end TK
namespace TK
open PySem PySem.Spec PyProof.Rows L2
theorem cdiv_of {i j : Int} (h0 : 0 < j) (h1 : j < BIG) : CDivW i j := by
  have h2 : BIG ≤ 2 ^ 8000 := (Classical.choose_spec big_ex).2
  exact wide_div (b := 8000) h0 (by omega) (by decide) (by decide)
theorem cdiv_small {i j : Int} (h0 : 0 < j) (h1 : j < 2 ^ 63) : CDivW i j := cdiv_of h0 (lt_big h1)
end TK
namespace TK
open PySem PySem.Spec PyProof.Rows L2
theorem at_ints {ns : List Int} {i : Int} (h0 : 0 ≤ i) (h1 : i < (ns.length : Int)) : atI (ns.map V.int) i = some (.int (ns[i.toNat]'(by omega))) := by
  have e : i = ((i.toNat : Nat) : Int) := by omega
  have q : atI (ns.map V.int) ((i.toNat : Nat) : Int) = some (.int (ns[i.toNat]'(by omega))) := atI_nat (by rw [List.getElem?_map, List.getElem?_eq_getElem (show i.toNat < ns.length by omega)]; rfl)
  rw [← e] at q
  exact q
theorem emod_lt' {a b : Int} (h : 0 < b) : a % b < b := Int.emod_lt_of_pos a h
theorem emod_ge' {a b : Int} (h : 0 < b) : 0 ≤ a % b := Int.emod_nonneg a (by omega)
end TK
namespace TK
/-- a word at which the tactics stop -/
inductive Here (p : Prop) : Prop
  | mk (h : p)
  | no (h : False)
theorem Here.out {p : Prop} (h : Here p) : p := by
  cases h with
  | mk h => exact h
  | no h => exact h.elim
end TK
namespace TK
open PySem PySem.Spec PyProof.Rows L2
/-- kinds of things, and for lists their lengths -/
def htag : HO → Nat
  | .lst [] => 0
  | .lst [_] => 1
  | .lst (_ :: _ :: _) => 2
  | .tup _ => 3
  | .dK _ => 4
  | .ext _ => 5
  | .xd _ => 6
  | .ins _ _ _ => 7
  | .own _ => 8
  | .rng _ _ => 9
  | _ => 10
theorem ne_tag {H : Hp} {a b : Addr} {o u : HO} (h1 : H a = some o) (h2 : H b = some u) (h : (htag o == htag u) = false) : a ≠ b := ne_of h1 h2 fun e => by
  rw [e] at h
  simp at h
end TK
/-! Own toolkit, part b: texts, loops over them, small lists of texts. -/
namespace TK
open PySem PySem.Spec PyProof.Rows L2
/-! ### texts -/
theorem cps_app (x y : Str) : (x ++ y).cps.toList = x.cps.toList ++ y.cps.toList := by
  rw [PySem.Str.cps_append] <;> simp
theorem len_cps (x : Str) : x.length = x.cps.toList.length := by simp [Str.length]
theorem str_ext {x y : Str} (h : x.cps.toList = y.cps.toList) : x = y := by
  obtain ⟨a⟩ := x
  obtain ⟨b⟩ := y
  have e : a = b := by simpa using h
  rw [e]
theorem len_app (x y : Str) : (x ++ y).length = x.length + y.length := by
  rw [len_cps, cps_app, List.length_append, ← len_cps, ← len_cps]
theorem len_sign (c : Nat) : (⟨#[c]⟩ : Str).length = 1 := rfl
theorem inV_strs (x : Str) : ∀ ws : List Str, inV (.str x) (ws.map V.str) = decide (x ∈ ws)
  | [] => rfl
  | w :: ws => by
    have ih := inV_strs x ws
    unfold inV at ih ⊢
    rw [List.map_cons, List.any_cons, ih]
    show ((w == x) || decide (x ∈ ws)) = decide (x ∈ w :: ws)
    by_cases e : w = x
    · subst e; simp
    · simp [e, Ne.symm e]
theorem all_flat (ws : List Str) : (ws.map V.str).all flatV = true := by
  rw [List.all_eq_true]
  intro v hv
  obtain ⟨w, _, rfl⟩ := List.mem_map.mp hv
  rfl
/-- over the signs of a text -/
theorem for_str {x : Str} {g : TG} {tb : TS} {D : Ends} {σ : L2.St} {H : Hp} (Pv : Nat → L2.St → Hp → Prop) (h0 : Pv 0 σ H)
    (hs : ∀ i c σ H, x.cps[i]? = some c → Pv i σ H → g (.str ⟨#[c]⟩) σ H fun σ2 H2 => tb { D with nx := Pv (i + 1), ct := Pv (i + 1), bk := D.nx } σ2 H2) (hd : ∀ σ H, Pv x.cps.size σ H → D.nx σ H) :
    ∃ W : Nat → Nat → L2.St → Hp → Prop, (∃ m, W 0 m σ H) ∧ ∀ i m σ H, W i m σ H →
      ((Its x).stop i H ∧ D.nx σ H) ∨ ((Its x).go i H ∧ ∃ N : L2.St → Hp → Prop, (∀ σ' H', N σ' H' → ∃ m', m' < m ∧ W (i + 1) m' σ' H') ∧ ∀ v H', (Its x).yld i H v H' → g v σ H' fun σ2 H2 => tb { D with nx := N, ct := N, bk := D.nx } σ2 H2) := by
  refine ⟨fun i m σ H => m = x.cps.size - i ∧ i ≤ x.cps.size ∧ Pv i σ H, ⟨x.cps.size, by simp, Nat.zero_le _, h0⟩, ?_⟩
  rintro i m σ H ⟨rfl, hi, p⟩
  by_cases hlt : i < x.cps.size
  · refine .inr ⟨hlt, Pv (i + 1), fun σ' H' p' => ⟨x.cps.size - (i + 1), by omega, rfl, hlt, p'⟩, fun v H' y => ?_⟩
    obtain ⟨e, c, hc, e2⟩ := y
    subst e e2
    exact hs i c σ _ hc p
  · have e : i = x.cps.size := by omega
    subst e
    exact .inl ⟨Nat.le_refl _, hd σ H p⟩
theorem mem_cps {x : Str} {i c : Nat} (h : x.cps[i]? = some c) : c ∈ x.cps.toList := by
  obtain ⟨h1, h2⟩ := Array.getElem?_eq_some_iff.mp h
  rw [← h2]
  simp
theorem cps_at {x : Str} {i c : Nat} (h : x.cps[i]? = some c) : x.cps.toList[i]? = some c := by
  rw [← h]; simp
/-- a loop that leaves at the first sign that is not so: up to i all are so -/
theorem all_take {l : List Nat} {f : Nat → Bool} {i c : Nat} (h : l[i]? = some c) (ih : (l.take i).all f = true) (hc : f c = true) : (l.take (i + 1)).all f = true := by
  rw [List.take_add_one, List.all_append, ih, h]
  simpa using hc
theorem not_all {l : List Nat} {f : Nat → Bool} {i c : Nat} (h : l[i]? = some c) (hc : f c = false) : l.all f = false := by
  rw [List.all_eq_false]
  exact ⟨c, List.mem_of_getElem? h, by rw [hc]; decide⟩
/-- an item of a text at a number below its length -/
theorem at_str {z : Str} {i : Int} (h0 : 0 ≤ i) (h1 : i < (z.length : Int)) : ∃ c, atI z.cps.toList i = some c ∧ c ∈ z.cps.toList := by
  have hl : i.toNat < z.cps.toList.length := by rw [← len_cps]; omega
  refine ⟨z.cps.toList[i.toNat], ?_, List.getElem_mem hl⟩
  have q : atI z.cps.toList ((i.toNat : Nat) : Int) = some z.cps.toList[i.toNat] := atI_nat (List.getElem?_eq_getElem hl)
  rw [show ((i.toNat : Nat) : Int) = i by omega] at q
  exact q
theorem at_list {xs : List V} {i : Int} (h0 : 0 ≤ i) (h1 : i < (xs.length : Int)) : ∃ v, atI xs i = some v ∧ xs[i.toNat]? = some v ∧ v ∈ xs := by
  have hl : i.toNat < xs.length := by omega
  refine ⟨xs[i.toNat], ?_, List.getElem?_eq_getElem hl, List.getElem_mem hl⟩
  have q : atI xs ((i.toNat : Nat) : Int) = some xs[i.toNat] := atI_nat (List.getElem?_eq_getElem hl)
  rw [show ((i.toNat : Nat) : Int) = i by omega] at q
  exact q
theorem sIx_nat' (n d : Nat) (i : Int) (h : 0 ≤ i) : HT.sIx n d (some i) = min i.toNat n := by
  have := HT.sIx_nat n d i.toNat
  rw [show ((i.toNat : Nat) : Int) = i by omega] at this
  exact this
theorem cutS_to {z : Str} {i : Int} (h0 : 0 ≤ i) : (cutS z none (some i)).cps.toList = z.cps.toList.take i.toNat := by
  unfold cutS
  show List.take (HT.sIx z.length z.length (some i) - HT.sIx z.length 0 none) (List.drop (HT.sIx z.length 0 none) z.cps.toList) = _
  rw [HT.sIx_none, sIx_nat' _ _ _ h0, List.drop_zero, Nat.sub_zero, len_cps, ← List.take_eq_take_min]
theorem cutS_from {z : Str} {i : Int} (h0 : 0 ≤ i) : (cutS z (some i) none).cps.toList = z.cps.toList.drop i.toNat := by
  unfold cutS
  show List.take (HT.sIx z.length z.length none - HT.sIx z.length 0 (some i)) (List.drop (HT.sIx z.length 0 (some i)) z.cps.toList) = _
  rw [HT.sIx_none, sIx_nat' _ _ _ h0, len_cps]
  by_cases h : i.toNat ≤ z.cps.toList.length
  · rw [Nat.min_eq_left h]
    exact List.take_of_length_le (by rw [List.length_drop]; exact Nat.le_refl _)
  · rw [Nat.min_eq_right (by omega), List.drop_of_length_le (Nat.le_refl _), List.drop_of_length_le (by omega)]
    simp
end TK
namespace TK
open PySem PySem.Spec PyProof.Rows L2
/-- an item of a text or of a list, drawn -/
def sp_pick (K : PySem.W.Frag) : Sp := fun vs H Q _ => ∃ (st : Addr) (row : V), vs = [.ref st, row] ∧ StAt H st ∧
  ((∃ z : Str, row = .str z ∧ 0 < z.length ∧ z.length ≤ sizeLine ∧ ∀ (c : Nat) (H' : Hp), Same H H' → c ∈ z.cps.toList → Q (.str ⟨#[c]⟩) H') ∨
   (∃ (p : Addr) (xs : List V), row = .ref p ∧ H p = some (.lst xs) ∧ xs ≠ [] ∧ xs.length ≤ sizeLine ∧ ∀ (v : V) (H' : Hp), Same H H' → v ∈ xs → Q v H'))
end TK
namespace TK
open PySem PySem.Spec PyProof.Rows L2
theorem app_len {x y : Str} {n m : Nat} (h : x.length ≤ n) (h2 : y.length ≤ m) (h3 : n + m ≤ 16777216) : x.length + y.length ≤ sizeLine := by
  rw [sizeLine_eq]; omega
theorem sgn_app {x : Str} {c : Nat} {l : List Nat} (h : ∀ c ∈ x.cps.toList, c ∈ l) (hc : c ∈ l) : ∀ d ∈ (x ++ (⟨#[c]⟩ : Str)).cps.toList, d ∈ l := fun d hd => by
  rw [cps_app] at hd
  rcases List.mem_append.mp hd with e | e
  · exact h d e
  · have e : d ∈ [c] := e
    rw [List.mem_singleton.mp e]; exact hc
theorem line_le {n m : Nat} (h : n ≤ m) (h2 : m ≤ 16777216) : n ≤ sizeLine := by
  rw [sizeLine_eq]; omega
end TK
namespace TK
open PySem PySem.Spec PyProof.Rows L2
theorem cutS_lento {z : Str} {i : Int} (h0 : 0 ≤ i) : (cutS z none (some i)).length = min i.toNat z.length := by
  rw [len_cps, cutS_to h0, List.length_take, ← len_cps]
theorem cutS_lenfrom {z : Str} {i : Int} (h0 : 0 ≤ i) : (cutS z (some i) none).length = z.length - i.toNat := by
  rw [len_cps, cutS_from h0, List.length_drop, ← len_cps]
end TK
namespace TK
open PySem PySem.Spec PyProof.Rows L2
theorem cutS_both {z : Str} {i j : Int} (h0 : 0 ≤ i) (h1 : i ≤ j) : (cutS z (some i) (some j)).cps.toList = (z.cps.toList.drop i.toNat).take (j.toNat - i.toNat) := by
  unfold cutS
  show List.take (HT.sIx z.length z.length (some j) - HT.sIx z.length 0 (some i)) (List.drop (HT.sIx z.length 0 (some i)) z.cps.toList) = _
  rw [sIx_nat' _ _ _ h0, sIx_nat' _ _ _ (Int.le_trans h0 h1), len_cps]
  by_cases h : i.toNat ≤ z.cps.toList.length
  · rw [Nat.min_eq_left h, List.take_eq_take_iff, List.length_drop]
    omega
  · have e1 : List.drop (min i.toNat z.cps.toList.length) z.cps.toList = [] := List.drop_of_length_le (by omega)
    have e2 : List.drop i.toNat z.cps.toList = [] := List.drop_of_length_le (by omega)
    rw [e1, e2]
    simp
theorem mem_cpsl {x : Str} : ∀ {ws : List Str}, x ∈ ws ↔ x.cps.toList ∈ ws.map fun z => z.cps.toList := fun {ws} => by
  rw [List.mem_map]
  exact ⟨fun h => ⟨x, h, rfl⟩, fun ⟨y, hy, e⟩ => str_ext e ▸ hy⟩
end TK
/-! Own toolkit, part h: what the program's top has left, told by names (a Hook with further yes-or-no facts). -/
namespace TK
open PySem PySem.Spec PyProof.Rows L2
section
variable {X : Cx} {x : Str} {v : V} {pos : Pos}
theorem pe_globE (hg : Gl X x) (h : ∃ u, X.mg x = some u ∧ RelV v u) (hd : (x == ("__debug__" : Str)) = false := by decide) : PE X (.Name x pos) (tC v) := by
  obtain ⟨u, e, r⟩ := h
  exact pe_glob hg e r hd
end
def fdNo : FuncData := PySem.W.fnOf "" "" { posonlyargs := [], args := [], vararg := none, kwonlyargs := [], kw_defaults := [], kwarg := none, defaults := [] } [] { kind := .function, names := [], isGenerator := false, isCoroutine := false } .none .none .none .none none .none .none
/-- the function object that stands there -/
def fdOf (K : PySem.W.Frag) (p : Str × Option Str) : FuncData := match K.lookup (He.fAd K p) with
  | some ⟨_, _, .func fd, _⟩ => fd
  | _ => fdNo
theorem fdOf_eq {K : PySem.W.Frag} {p : Str × Option Str} {x qual : Str} {a : Arguments} {b : List Stmt} {sc : Scope} {dvs : List V} {kws : List (Str × V)} {fd : FuncData} (F : FunD K x qual a b sc dvs kws (He.fAd K p) fd) : fdOf K p = fd := by
  obtain ⟨oc, od, dV, kV, doc, pm, an, cdv, ct, osl, e, lk, _⟩ := F.ex
  unfold fdOf
  rw [lk]
abbrev Ex : Type := List (PySem.W.Frag → Bool)
def exB (ex : Ex) (K : PySem.W.Frag) : Bool := ex.all fun e => e K
abbrev AlM : Type := He.AlD × Bool
def obsM (n : Nat) (fa : List He.Fa) (fn : List He.DefD) (ex : Ex) (g : Addr → Option Obj) : AlM := (He.obsD fa fn (He.frG g (He.asD g n)), exB ex (He.frG g (He.asD g n)))
def hookM (n : Nat) (fa : List He.Fa) (fn : List He.DefD) (ex : Ex) : PySem.W.Hook where
  α := AlM
  obs := fun s => obsM n fa fn ex s.heap.get?
  val := fun _ => (He.valD fn, true)
  says := fun _ h => ∃ K : PySem.W.Frag, K.In h ∧ He.SaysD fa fn K ∧ exB ex K = true
  of := fun _ _ e => ⟨_, He.frG_in, congrArg (fun z : AlM => z.1) e, congrArg (fun z : AlM => z.2) e⟩
  keeps := fun _ _ _ ⟨K, hK, c⟩ k => ⟨K, PySem.W.Frag.In.keeps hK k, c⟩
theorem obsM_eq {n : Nat} {fa : List He.Fa} {fn : List He.DefD} {ex : Ex} {g : Addr → Option Obj} {s : Shared} (h : ∀ a, g a = s.heap.get? a) : obsM n fa fn ex g = (hookM n fa fn ex).obs s := by
  have e : g = s.heap.get? := funext h
  rw [e] <;> rfl
/-- what is known of the written part -/
structure Facts (fa : List He.Fa) (fn : List He.DefD) (ex : Ex) (K : PySem.W.Frag) (mg : Str → Option Value) : Prop where
  heap : ∃ h : Heap, K.In h ∧ h.Ns mainGlobals mg
  says : He.SaysD fa fn K
  more : exB ex K = true
section
variable {fa : List He.Fa} {fn : List He.DefD} {ex : Ex} {K : PySem.W.Frag} {mg : Str → Option Value} (T : Facts fa fn ex K mg)
include T
theorem Facts.glo (i : Nat) (x : Str) (h : fa[i]? = some (.glo x) := by rfl) : mg x = some (.ref (He.ga K x)) := by
  obtain ⟨hp, X, G⟩ := T.heap
  exact He.glo_ok X G (T.says.fact i h)
theorem Facts.free (i : Nat) (x : Str) (h : fa[i]? = some (.free x) := by rfl) : mg x = none := by
  obtain ⟨hp, X, G⟩ := T.heap
  exact He.free_ok X G (T.says.fact i h)
theorem Facts.int (i : Nat) (x : Str) (n : Int) (h : fa[i]? = some (.int x n) := by rfl) : ∃ u, mg x = some u ∧ RelV (.int n) u := by
  obtain ⟨hp, X, G⟩ := T.heap
  obtain ⟨t, e⟩ := He.int_ok X G (T.says.fact i h)
  exact ⟨_, e, t, rfl⟩
theorem Facts.str (i : Nat) (x z : Str) (h : fa[i]? = some (.str x z) := by rfl) : ∃ u, mg x = some u ∧ RelV (.str z) u := by
  obtain ⟨hp, X, G⟩ := T.heap
  obtain ⟨t, e⟩ := He.str_ok X G (T.says.fact i h)
  exact ⟨_, e, t, rfl⟩
theorem Facts.obj (i : Nat) (x : Str) (h : fa[i]? = some (.glo x) := by rfl) : ∃ u, mg x = some u ∧ RelV (.ref (He.ga K x)) u := ⟨_, T.glo i x h, rfl⟩
theorem Facts.exf (i : Nat) (e : PySem.W.Frag → Bool) (h : ex[i]? = some e := by rfl) : e K = true :=
  List.all_eq_true.mp (show ex.all (fun e => e K) = true from T.more) e (List.mem_of_getElem? h)
theorem Facts.fct (i : Nat) (f : He.Fa) (h : fa[i]? = some f := by rfl) : f.ok K = true := T.says.fact i h
theorem Facts.cls (i : Nat) (x : Str) (h : fa[i]? = some (.cls x) := by rfl) : Cls K (He.ga K x) := He.cls_ok (T.says.fact i h)
theorem Facts.noat (i : Nat) (x f : Str) (h : fa[i]? = some (.noat x f) := by rfl) : NoAttr K (He.ga K x) f := He.noat_ok (T.says.fact i h)
theorem Facts.meth (i : Nat) (x m : Str) (h : fa[i]? = some (.meth x m) := by rfl) : Meth K (He.ga K x) m (He.ma K (He.ga K x) m) := He.meth_ok (T.says.fact i h)
theorem Facts.mkr (i : Nat) (x : Str) (h : fa[i]? = some (.mkr x) := by rfl) : Mk K (He.ga K x) (He.ma K (He.ga K x) "__init__") := He.mkr_ok (T.says.fact i h)
theorem Facts.fun_ (i : Nat) (d : He.DefD) (h : fn[i]? = some d := by rfl) : FunD K d.name d.qual d.params d.body d.scope (d.dvs K) (d.kws K) (He.fAd K d.at_) (fdOf K d.at_) := by
  obtain ⟨fd, F⟩ := T.says.def_ i h
  rw [fdOf_eq F]
  exact F
end
/-- the law's row from the head's run (as the guide's smallest head with facts), the law's promise given by facts -/
theorem row_by {l : PySem.W.OpenLaw} {i : Nat} {fa : List He.Fa} {fn : List He.DefD} {ex : Ex} {d : DefRec} {k : Nat} {q : Program} {loose : List Str} {XP : (Str → Option Value) → Heap → Prop} {sp : PySem.W.Frag → Sp} {f : PySem.W.Frag → Addr} {fd : PySem.W.Frag → FuncData}
    (hn : l.most = some 63) (hdf : d.params.defaults = []) (hr : Room k callerA) (hdn : d.name = ("law" : Str))
    (hf : ∀ K mg, Facts fa fn ex K mg → mg ("law" : Str) = some (.ref (f K)))
    (hb : ∀ K mg, Facts fa fn ex K mg → ∀ (s : Shared) (u : Value), BindsTo s (fd K) ⟨[u], []⟩ [("script", u)])
    (hsp : ∀ (K : PySem.W.Frag) (H : Hp) (a : Addr) (ns : List Int), ns.length ≤ 63 → Only H → SqL K H a (ns.map V.int) → sp K [.ref a] H (fun v _ => v = .bl true) fun _ _ _ => False)
    (hF : ∀ (w : World) K mg base, Facts fa fn ex K mg → FnOk l.prog w K mg base CX0 k (f K) (fd K) ["script"] (sp K)) :
    PySem.W.WalkO q loose XP (hookM i fa fn ex).says l.row.toRowW d [] (fun f vs => PySem.call f vs) := by
  refine L2.walk_ofE (l := l) (n := 63) (k := k) (x := "script") (CX := L2.CX0) hn (by decide) hdf hr ?F (fun _ _ _ _ z => z)
  intro w mg fa' h Y G hmg0
  obtain ⟨K, KX, c, cx⟩ := Y
  have T : Facts fa fn ex K mg := ⟨⟨h, KX, G⟩, c, cx⟩
  rw [hdn, hf K mg T] at hmg0
  cases hmg0
  exact ⟨K, fd K, sp K, KX, hb K mg T, hsp K, fun base _ _ => hF w K mg base T⟩
end TK
/-! Own toolkit, part x: own exceptions whose __init__ begins with super().__init__(..). -/
namespace TK
open PySem PySem.Spec PyProof.Rows L2 NdefX
/-- an __init__ at f, of the class at D, whose only captured name is __class__ (its cell at cc) -/
structure SupF (prog : Program) (K : PySem.W.Frag) (mg : Str → Option Value) (f : Addr) (fd : FuncData) (F : NF) (D cc : Addr) : Prop where
  fn : ∃ oc od osl doc pm ctv, fd = F.fd doc pm ctv ∧ K.lookup f = some ⟨oc, od, .func fd, osl⟩
  code : PySem.W.codeIn K (.ref F.c) F.qual = true
  file : ∃ ccl cdd vs ccs file tf, K.lookup F.c = some ⟨ccl, cdd, .fields vs, ccs⟩ ∧ vs[2]? = some (.str file tf) ∧ ((prog.main.file : Str) == file) = true
  cl : F.cl = [(("__class__" : Str), cc)]
  cell : ∃ cl cld csl, K.lookup cc = some ⟨cl, cld, .cell (some (.ref D)), csl⟩
  clsD : ∃ cd, PySem.W.clsIn K D = some cd
  sup : mg "super" = none
  top : (prog.main.scope.names.lookup ("super" : Str)).isSome = false
/-- what super() of the class at D finds above, for an exception of the class at C: ValueError's own __init__ -/
structure SupV (K : PySem.W.Frag) (C D : Addr) : Prop where
  ox : OexC K C
  mro : PySem.W.mroIn K C (.ref D) = some true
  above : PySem.W.ks_superIn K C D "__init__" = some (some (.builtin "ValueError.__init__"))
  sub : PySem.W.subIn K (.ref C) (.type "ValueError") = some true
  opq : PySem.W.nsIn K PySem.cStatics "thirdparty.any" = some none
section
variable {X : Cx} {pins : List (Addr × Obj)} {σ : L2.St} {H : Hp} {s : Shared} {a C D cc f : Addr} {F : NF} {fd : FuncData}
/-- the wrapper of ValueError.__init__ is called: nothing of it is told -/
theorem wrapper_call {u : Addr} {us : List Value} {Q : Value → Shared → Prop} {A : Around} {E : Value → Shared → Prop} (T : OexC X.K C) (I : Inv X pins σ H s) (e : H a = some (exo a C none)) (hu : s.heap.get? u = some (PySem.W.kxs_mw "ValueError.__init__" a)) (hl : us.length ≤ sizeLine)
    (h : ∀ s', Inv X pins σ H s' → Q .none s') : wpAny (model X.prog X.w) A (call (.ref u) us) Q E s := by
  obtain ⟨nm, q, N, bs, bm, sn, sub, ab, col, dd, k0, k1, k2, k3, k5, hC, hbm⟩ := T.cls
  obtain ⟨t1, ho⟩ := exo_at I.hok e
  have hC' := I.kIn _ _ hC
  have eu : upd H a (exo a C none) = H := by
    funext b
    by_cases hb : b = a
    · rw [hb, upd_same, e]
    · rw [upd_ne hb]
  have fin : ∀ h' tk, (∀ b o, b ≠ a → s.heap.get? b = some o → h'.get? b = some o) → h'.get? a = some (PySem.W.excObj C tk none .none) → Q .none { s with heap := h' } := fun h' tk k hx => by
    have J := I.write (t' := s.toks) (x := a) (e := a) (o := exo a C none) (by rw [e]; exact True.intro) (.inl rfl) k ⟨_, hx⟩ (exo_ok hx)
    rw [eu] at J
    exact h _ J
  obtain ⟨hh, g, d, tk, os⟩ := s
  refine wpAny_call (codeAny_of_tree ?_)
  show wpAny _ A.in1 (callAny (.ref u) ⟨us, []⟩) _ _ _
  simp only [callAny]
  refine wpAny_bind (wpAny_load hu ?_)
  simp only [PySem.W.kxs_mw, show (Value.type "method-wrapper" == Value.type "method" || Value.type "method-wrapper" == Value.type "builtin_function_or_method" || Value.type "method-wrapper" == Value.type "method-wrapper") = true by decide, if_true]
  refine PySem.W.KFB.if_so (by decide) ?_
  refine wpAny_bind (PySem.W.check_bound_init F.excBase_ValueError.toExcCallFacts hC' ho rfl ?_)
  refine wpAny_bind (wpAny_pure (wpAny_pure ?_))
  refine ⟨plainId_quiet F.excBase_ValueError.init.plain _, codeAny_builtin F.excBase_ValueError.initEntry ?_⟩
  exact PySem.W.exc_init_tree (cls := .ref C) (t0 := t1) (dv := none) (c2 := .none) (c3 := .none) (b4 := .bool false) ho hl fun h' k e' t' => fin h' _ k e'
/-- the object that super() gives, __init__ asked of it, the call: where ValueError's own is found -/
theorem sup_stage {p0 p1 p2 p3 p4 : Pos} {e : Expr} {es : List Expr} {ta : TA} {D' : Ends} {pl : Sem Bool} (S : SupF X.prog X.K X.mg f fd F D cc) (V : SupV X.K C D)
    (he : X.env = envF F f X.env.locals) (hN : X.N[0]? = some ("self" : Str)) (hks : F.scope.names.lookup ("super" : Str) = some .globalImplicit) (hkc : F.scope.names.lookup ("__class__" : Str) = some .free) (hsl : F.scope.names.lookup ("self" : Str) = some .local)
    (hh : (F.params.posonlyargs ++ F.params.args).head?.map (·.arg) = some ("self" : Str))
    (I : Inv X pins σ H s) (h0 : σ[0]? = some (some (.ref a))) (ha : H a = some (exo a C none)) (hp : PA X (e :: es) ta)
    (h : ta σ H fun vs H1 => vs.length ≤ 1000 ∧ H1 a = some (exo a C none) ∧ D'.nx σ H1)
    (hc : eval (.Call (.Attribute (.Call (.Name "super" p0) [] [] p1) "__init__" p2) (e :: es) [] p3) X.env = (do
      let ov ← attributeBase (.Call (.Name "super" p0) [] [] p1) "__init__" X.env (eval (.Call (.Name "super" p0) [] [] p1) X.env)
      standAt p2.atName
      let (f, first) ← holding [ov] (getMethod ov "__init__" pl)
      callWith p3 f first (backTo p3 (starEach (e :: es) X.env)) []) := by rfl)
    (hs : starEach (e :: es) X.env = (false, eval e X.env) :: starEach es X.env := by rfl) (hpl : (backTo p3 (starEach es X.env)).any (·.1) = false := by rfl) (hsw : swapsWith (.Call (.Attribute (.Call (.Name "super" p0) [] [] p1) "__init__" p2) (e :: es) [] p3) none p4.line X.env = pure false := by rfl) :
    _root_.PySem.wpAt (model X.prog X.w) X.A (.func F.body X.env) (exec (.Expr (.Call (.Attribute (.Call (.Name "super" p0) [] [] p1) "__init__" p2) (e :: es) [] p3) p4) X.env) (SP X pins D') X.xe s := by
  obtain ⟨oc, od, osl, doc, pm, ctv, rfl, lk⟩ := S.fn
  obtain ⟨ccl, cdd, cvs, ccs, file, tf, lc, hvs, hfile⟩ := S.file
  obtain ⟨cl, cld, csl, lcell⟩ := S.cell
  obtain ⟨cdD, hD⟩ := S.clsD
  have XK := I.kIn
  obtain ⟨oD, hD1, hD2⟩ : ∃ oD, s.heap.get? D = some oD ∧ oD.data = .cls cdD := by
    unfold PySem.W.clsIn at hD
    split at hD
    · rename_i c d cd' sl ho
      cases hD
      exact ⟨_, XK _ _ ho, rfl⟩
    · cases hD
  obtain ⟨t1, hx⟩ := exo_at I.hok ha
  obtain ⟨m, hns, hl⟩ := I.loc
  obtain ⟨u, ru, lu⟩ := hl 0 ("self" : Str) _ hN h0 (.inl (by rw [he]; exact hsl))
  obtain rfl : u = Value.ref a := ru
  have hk : X.env.scope.kind = .function := I.ok.kind
  have hm : m ("self" : Str) = some (.ref a) := by
    rcases lu with ⟨_, hm⟩ | ⟨hk2, _⟩
    · exact hm
    · have e1 : X.env.kindOf ("self" : Str) = some .local := by rw [he]; exact hsl
      rw [e1] at hk2
      rcases hk2 with z | z <;> cases z
  obtain ⟨ar, har, harg⟩ := Option.map_eq_some_iff.mp hh
  have hfu : X.env.func = some f := by rw [he]
  have hco : X.env.code = .ref F.c := by rw [he]
  have k1 : X.env.kindOf ("super" : Str) = some .globalImplicit := by rw [he]; exact hks
  have k2 : X.env.kindOf ("__class__" : Str) = some .free := by rw [he]; exact hkc
  have k3 : X.env.kindOf ("self" : Str) = some .local := by rw [he]; exact hsl
  have k4 : X.env.cells.lookup ("__class__" : Str) = some cc := by rw [he]; show F.cl.lookup _ = _; rw [S.cl]; rfl
  obtain ⟨mb, hb1, hb2⟩ := I.mod.blt
  have lf := XK _ _ lk
  have lcd := XK _ _ lc
  have lcc := XK _ _ lcell
  obtain ⟨hh', g, d, tk, os⟩ := s
  refine ks_wpAt_Expr_any ?_ I.quiet hsw
  refine ks_wpAt_MethodCall ?_ hc
  refine ks_wpAt_super_base (env := X.env) k1 k2 rfl hfu lf rfl har hco lcd rfl hvs hfile S.top ?_
  refine PySem.W.ks_loadName_global hk k1 (Calls.loadGlobal_builtin (env := X.env) (by rw [I.ok.glob]; exact I.mod.glob.keeps I.bk) S.sup (by rw [I.ok.blt]; exact hb1.keeps I.bk) ((hb2 _ (by decide +kernel)).trans (by decide +kernel : bootBuiltins "super" = some (.type "super"))) ⟨rfl, ?_⟩)
  refine wpAny_loadName_free hk k2 k4 ⟨_, lcc, rfl⟩ ?_
  rw [harg]
  refine wpAny_loadName_local hk k3 hns hm ?_
  refine ks_wpAny_isType_cls hD1 hD2 ⟨rfl, ?_⟩
  refine ks_wpAny_call_super hD1 hD2 hx rfl (fun c e => by cases e) (PySem.W.looks_mroIn XK V.mro) (fun h1 eso kso => ?_)
  have I1 : Inv X pins σ H ⟨h1, g, d, tk, os⟩ := I.kept (t' := tk) kso
  have nso : H hh'.objs.size = none := I.hok.fresh (Nat.le_refl _)
  cases hcd : PySem.W.clsIn X.K C with
  | none =>
    have z := V.above
    unfold PySem.W.ks_superIn at z
    rw [hcd] at z
    cases z
  | some cd =>
    have z := V.above
    unfold PySem.W.ks_superIn at z
    rw [hcd] at z
    have XK1 := I1.kIn
    have ia : (⟨h1, g, d, tk, os⟩ : Shared).heap.get? a = some (PySem.W.excObj C t1 none .none) := kso _ _ hx
    refine PySem.W.kxs_getMethod PySem.W.kxs_ValueError eso (PySem.W.looks_opaque XK1 V.opq) (l₀ := cd.mro) (fun A Q E s k q => wpAny_bind ((PySem.W.looks_clsIn XK1 hcd) A _ E s k (wpAny_pure q))) rfl XK1 z ?_ ?_ rfl ?_
    · exact (show PySem.W.InstAt h1 a (PySem.W.excObj C t1 none .none) C none from ⟨ia, rfl, rfl, trivial⟩).type.andThen (PySem.W.looks_subIn XK1 V.sub)
    · exact PySem.W.ks_ne XK1 (show PySem.W.InstAt h1 a (PySem.W.excObj C t1 none .none) C none from ⟨ia, rfl, rfl, trivial⟩) hcd
    · have k2 : ∀ b o, h1.get? b = some o → (h1.push (PySem.W.kxs_mw "ValueError.__init__" a)).get? b = some o := fun b o e => Heap.get?_push_of_some _ e
      have gu : (h1.push (PySem.W.kxs_mw "ValueError.__init__" a)).get? h1.objs.size = some (PySem.W.kxs_mw "ValueError.__init__" a) := Heap.get?_push_at rfl rfl
      have nu : H h1.objs.size = none := I1.hok.fresh (Nat.le_refl _)
      have I2 : Inv X pins σ H ⟨h1.push (PySem.W.kxs_mw "ValueError.__init__" a), g, d, tk + 1, os⟩ := I1.kept (t' := tk + 1) k2
      have I3 : Inv X ((h1.objs.size, PySem.W.kxs_mw "ValueError.__init__" a) :: pins) σ H ⟨h1.push (PySem.W.kxs_mw "ValueError.__init__" a), g, d, tk + 1, os⟩ := I2.pins_of fun p hp => by
        rcases List.mem_cons.mp hp with rfl | z
        · exact ⟨gu, nu, Nat.ne_of_gt I1.lt, I1.nofs (Nat.le_refl _), fun v e => by cases e⟩
        · exact I2.pin p (List.mem_append_right _ z)
      refine PySem.W.kxs_callWith1 (h₀ := X.base) (L := X.env.locals) (news := [(h1.objs.size, PySem.W.kxs_mw "ValueError.__init__" a)]) (i := "ValueError.__init__") (x := a) (fun p hp => ?_) List.mem_cons_self (thn (hp.run p3 _ _ σ H _ I3 h) fun us s2 q => ?_) hs hpl
      · obtain rfl : p = (h1.objs.size, PySem.W.kxs_mw "ValueError.__init__" a) := List.mem_singleton.mp hp
        refine ⟨gu, Nat.ne_of_gt I1.lt, ?_⟩
        exact Heap.get?_none_of_le (Nat.le_trans I.ok.bsz I1.sz)
      · obtain ⟨vs, H1, I4, rv, hz, e1, q1⟩ := q
        have hu := (I4.pin (h1.objs.size, PySem.W.kxs_mw "ValueError.__init__" a) (List.mem_append_right _ List.mem_cons_self)).1
        refine ⟨hu, wrapper_call V.ox I4 e1 hu ?_ fun s' I5 => ?_⟩
        · rw [← Paired.length rv, sizeLine_eq]; omega
        · exact ⟨σ, H1, I5.pins_of fun p hp => I5.pin p (List.mem_append_right _ (List.mem_cons_of_mem _ hp)), q1⟩
end
theorem look1 {α : Type} {y x : Str} {c d : α} (h : List.lookup y [(x, c)] = some d) : y = x ∧ d = c := by
  rw [List.lookup_cons, List.lookup_nil] at h
  cases e : y == x with
  | true =>
    rw [e] at h
    exact ⟨beq_iff_eq.mp e, (Option.some.inj h).symm⟩
  | false =>
    rw [e] at h
    cases h
section
variable {CX : CXT} {P : Program} {w : World} {K : PySem.W.Frag} {mg : Str → Option Value} {base : Heap} {N ps : List Str} {F : NF} {fd : FuncData} {f D cc : Addr} {k : Nat} {sp : Sp} {p0 p1 p2 p3 p4 : Pos} {e : Expr} {es : List Expr} {rest : List Stmt}
/-- an __init__ whose first statement is super().__init__(e, ..), above it ValueError's own -/
theorem fn_super (S : SupF P K mg f fd F D cc) (hS : NScope N ps ["__class__"] F.scope) (hbd : F.body = .Expr (.Call (.Attribute (.Call (.Name "super" p0) [] [] p1) "__init__" p2) (e :: es) [] p3) p4 :: rest)
    (hN : N[0]? = some ("self" : Str)) (hks : F.scope.names.lookup ("super" : Str) = some .globalImplicit) (hkc : F.scope.names.lookup ("__class__" : Str) = some .free) (hsl : F.scope.names.lookup ("self" : Str) = some .local)
    (hh : (F.params.posonlyargs ++ F.params.args).head?.map (·.arg) = some ("self" : Str)) (len : ∀ vs H Q E, sp vs H Q E → vs.length = ps.length)
    (hbody : ∀ (A : Around) (outer : List Env) (s : Shared) (H : Hp) (vs : List V) (Q : VK) (E : XK), Room k (A.deeper (envF F f s.heap.objs.size)) → sp vs H Q E →
      ∃ (a C : Addr) (vs' : List V) (ta : TA) (t : TS), vs = .ref a :: vs' ∧ SupV K C D ∧ H a = some (exo a C none) ∧ PA (ncx CX P w K mg base N F f A outer s H E) (e :: es) ta ∧ PSs (ncx CX P w K mg base N F f A outer s H E) rest t ∧
        ta (startF N vs [none]) H fun us H1 => us.length ≤ 1000 ∧ H1 a = some (exo a C none) ∧ t { nx := fun _ H' => Q .non H', rt := Q } (startF N vs [none]) H1)
    (hc : ∀ env : Env, ∃ pl, eval (.Call (.Attribute (.Call (.Name "super" p0) [] [] p1) "__init__" p2) (e :: es) [] p3) env = (do
      let ov ← attributeBase (.Call (.Name "super" p0) [] [] p1) "__init__" env (eval (.Call (.Name "super" p0) [] [] p1) env)
      standAt p2.atName
      let (f, first) ← holding [ov] (getMethod ov "__init__" pl)
      callWith p3 f first (backTo p3 (starEach (e :: es) env)) []) := by exact fun env => ⟨_, rfl⟩)
    (hs : ∀ env : Env, starEach (e :: es) env = (false, eval e env) :: starEach es env := by exact fun env => rfl) (hpl : ∀ env : Env, (backTo p3 (starEach es env)).any (·.1) = false := by exact fun env => rfl)
    (hsw : ∀ env : Env, swapsWith (.Call (.Attribute (.Call (.Name "super" p0) [] [] p1) "__init__" p2) (e :: es) [] p3) none p4.line env = pure false := by exact fun env => rfl) :
    FnOk P w K mg base CX (k + 1) f fd ps sp := by
  refine ⟨len, fun A outer s H args us vs Q E hr e0 hbi r hsp => ?_⟩
  have hl := len _ _ _ _ hsp
  obtain ⟨oc, od, osl, doc, pm, ctv, rfl, lk⟩ := S.fn
  obtain ⟨cl, cld, csl, lcell⟩ := S.cell
  have hK : K.In s.heap := fun b o q => (e0.bs b o (e0.mod.kin b o q)).1
  have lim : s.heap.NoLimit := e0.mod.nolimit.keeps fun b o e => (e0.bs b o e).1
  have ccat := e0.bs _ _ (e0.mod.kin _ _ lcell)
  have C : CellsAt F.cl ["__class__"] [(none : Option V)] s.heap H := by
    refine ⟨rfl, fun y c z => ?_, fun x y c z1 z2 => ?_, fun i y z => ?_⟩
    · rw [S.cl] at z
      obtain ⟨rfl, rfl⟩ := look1 z
      exact ⟨ccat.2, _, _, ccat.1, rfl⟩
    · rw [S.cl] at z1 z2
      exact (look1 z1).1.trans (look1 z2).1.symm
    · match i, z with
      | 0, z =>
        cases z
        refine ⟨cc, by rw [S.cl]; rfl, fun v z => ?_⟩
        cases z
      | i + 1, z => simp at z
  refine ks_codeAny_call_defAt (fd := F.fd doc pm ctv) hr.depth (hK _ _ lk) rfl lim (PySem.W.codeRec_of hK S.code) rfl hbi hS.nocell (fun x hx => hS.par _ (List.of_mem_zip hx).1) (fun h₁ hns kp => ?_) hS.co hS.gen hS.kind
  have I : Inv (ncx CX P w K mg base N F f A outer s H E) [] (startF N vs [none]) H { s with heap := h₁, toks := s.toks + (ps.zip us).length } := inv_startN hS hr.hd e0 hl r C hns kp
  obtain ⟨a, Cc, vs', ta, t, rfl, hV, ha, pa, pt, q⟩ := hbody A outer s H vs Q E (hr.deeper _) hsp
  have fin : ∀ {σ' : L2.St} {H' : Hp} {v : V} {u : Value} {s' : Shared}, Inv (ncx CX P w K mg base N F f A outer s H E) [] σ' H' s' → L2.RelV v u → Q v H' → CE outer P w H s Q u s' :=
    fun {σ' H' v u s'} J rv q => ⟨v, H', J.os, J.bare, J.base, J.hok, rv, q⟩
  have go : _root_.PySem.wpAt (model P w) (A.deeper (envF F f s.heap.objs.size)) (.func F.body (envF F f s.heap.objs.size)) (execs F.body (envF F f s.heap.objs.size)) (SP (ncx CX P w K mg base N F f A outer s H E) [] { nx := fun _ H' => Q .non H', rt := Q })
      (ncx CX P w K mg base N F f A outer s H E).xe { s with heap := h₁, toks := s.toks + (ps.zip us).length } := by
    obtain ⟨pl, hc'⟩ := hc (envF F f s.heap.objs.size)
    rw [show execs F.body (envF F f s.heap.objs.size) = execs (.Expr (.Call (.Attribute (.Call (.Name "super" p0) [] [] p1) "__init__" p2) (e :: es) [] p3) p4 :: rest) (envF F f s.heap.objs.size) by rw [hbd]]
    refine ks_wpAt_execs_cons (ks_wpAt_mono (sup_stage (X := ncx CX P w K mg base N F f A outer s H E) (D' := { nx := fun σ' H' => t { nx := fun _ H' => Q .non H', rt := Q } σ' H', rt := Q }) (pl := pl) S hV rfl hN hks hkc hsl hh I rfl ha pa q hc' (hs _) (hpl _) (hsw _)) (fun fl s' hq => ?_) fun _ _ z => z)
    cases fl with
    | next =>
      obtain ⟨σ', H', J, q'⟩ := hq
      exact wpAt_of_wpAny (pt.run [] _ σ' H' _ J q')
    | ret u => exact hq
    | brk =>
      obtain ⟨_, _, _, z⟩ := hq
      exact z.elim
    | cont =>
      obtain ⟨_, _, _, z⟩ := hq
      exact z.elim
  refine ks_wpAt_mono go (fun fl s' hq => ?_) fun _ _ z => z
  cases fl with
  | next =>
    obtain ⟨σ', H', J, q⟩ := hq
    exact fin (v := V.non) (u := Value.none) J rfl q
  | ret u =>
    obtain ⟨v, σ', H', J, rv, q⟩ := hq
    exact fin J rv q
  | brk =>
    obtain ⟨_, _, _, z⟩ := hq
    exact z.elim
  | cont =>
    obtain ⟨_, _, _, z⟩ := hq
    exact z.elim
end
end TK
/-! Own toolkit, part y: a caught error of an own class that has fields: isinstance of it. -/
namespace TK
open PySem PySem.Spec PyProof.Rows L2 PySem.W
section
variable {prog : Program} {w : World} {A : Around} {E : Value → Shared → Prop} {s : Shared} {K : PySem.W.Frag} {x D : Addr} {ox : Obj} {od : Option Obj}
theorem exc_clsD {Q : Option Value → Shared → Prop} (T : ExcC K D) (X : K.In s.heap) (I : InstAt s.heap x ox D od) (h : Q (some (.ref D)) { s with toks := s.toks + 1 }) :
    wpAny (model prog w) A (getAttr? (.ref x) "__class__") Q E s := by
  have hc : (clsIn K D).isSome = true := by obtain ⟨cd, z, _⟩ := any_some T.hd; rw [z]; rfl
  have hf : findObj K D od "__class__" = some (.bind (.builtin "getset_descriptor.__get__") (.builtin "object.__class__")) := by
    cases od with
    | none => exact findObj_dataN hc T.ha T.hn T.ht
    | some od => exact findObj_data hc T.ha T.hn T.ht
  obtain ⟨hp, gs, dr, tk, os⟩ := s
  have L0 := I.type (M := model prog w); have L1 := looks_findIn (M := model prog w) X T.hg; have L2 := looks_findIn (M := model prog w) X T.hk; have L3 := looks_find (M := model prog w) X I hf
  have ne2 : (Value.builtin "BaseException.__getattribute__" == Value.builtin "object.__getattribute__") = false := by decide +kernel
  unfold getAttr? getAttrBy? getAttrBy; refine wpAny_bind (wpAny_mkText (wpAny_bind (wpAny_attempt (wpAny_holding (wpAny_bind (L0.at (wpAny_bind (L1.at ?_))))))))
  change wpAny _ A (ite ((onTheHeap (Value.ref D) && Value.builtin "BaseException.__getattribute__" == Value.builtin "object.__getattribute__") = true) _ _) _ _ _
  rw [show (onTheHeap (Value.ref D) && Value.builtin "BaseException.__getattribute__" == Value.builtin "object.__getattribute__") = false by rw [ne2]; rfl, if_neg Bool.false_ne_true]
  unfold getAttrByItsOwn hookBefore; refine wpAny_bind ?_
  rw [if_pos (show onTheHeap (Value.ref D) = true from rfl)]; refine L2.at (wpAny_bind (wpAny_attempt (wpAny_holding ?_)))
  unfold callGetattribute
  rw [show (false && onTheHeap (Value.builtin "BaseException.__getattribute__")) = false from rfl, if_neg Bool.false_ne_true]
  unfold boundAndCalled; rw [PySem.F.excAttr_ValueError.ga.bind (.ref x)]; refine wpAny_bind (wpAny_pure ?_)
  refine wpAny_call (pos := [.ref x, .str "__class__" tk]) (codeAny_call_builtin PySem.F.excAttr_ValueError.ga.plain PySem.F.entry_bexc_ga ?_)
  refine @check_slot (model prog w) _ _ ⟨hp, gs, dr, tk + 1, os⟩ "BaseException.__getattribute__" "BaseException" "__getattribute__" (.ref x) [.str "__class__" tk] [] _ (by decide +kernel) (by decide +kernel) (L0.andThen (looks_subIn X T.hs)) (PySem.F.args_bexc_ga (.ref x) (.str "__class__" tk)) ?_
  unfold Builtin.«object.__getattribute__»
  refine wpAny_bind (wpAny_of_eq (a := ((Value.ref x : Value), [Value.str "__class__" tk])) (by first | rfl | (simp only [slotArgs]; rfl)) (wpAny_bind (wpAny_pure (wpAny_bind (L0.at (wpAny_bind (L3.at ?_)))))))
  refine wpAny_bind (wpAny_holding (wpAny_call (class_get (s := ⟨hp, gs, dr, tk + 1, os⟩) (ox := ox) (od := od) X I T.hm (wpAny_pure ?_))))
  show wpAny _ _ (handedOut (.ref D)) _ _ _
  rw [handedOut_of (v := .ref D) rfl]; first | exact wpAny_pure (wpAny_pure h) | exact wpAny_pure h | exact wpAny_pure (wpAny_bind (wpAny_pure (wpAny_pure h)))
theorem clsD_isType {M : Model} {h : Heap} (T : ExcC K D) (X : K.In h) : Looks M h (isType (.ref D)) true := by
  obtain ⟨cd, hc, _⟩ := any_some T.hd
  unfold clsIn at hc
  split at hc
  · rename_i ho
    exact fun A' Q' E' s' k q => ks_wpAny_isType_cls (h := s'.heap) (k _ _ (X _ _ ho)) rfl q
  · cases hc
theorem kitx_excD (T : ExcC K D) : KitX K (.ref x) (.ref D) (fun h => ∃ od, InstAt h x ox D od) where
  ty := fun _ _ _ ⟨_, I⟩ => I.type
  it := fun M h X _ => clsD_isType T X
  ne := (handS_kitx_exc (x := x) (ox := ox) T.hg T.hk T.hs T.hd T.ha T.hn T.ht T.hm).ne
  ca := fun X ⟨_, I⟩ k => exc_clsD T X I k
end
/-- isinstance(e, c), e the caught error at a, its class cls, its dict dd -/
def rIsD (K : PySem.W.Frag) (a : Addr) (cls : Value) (dd : Option Addr) : List V → Hp → VK → Prop := fun xs H Q => ∃ (D d : Addr) (c : V) (cv : Value) (b : Bool) (fs : List (Str × V)), cls = .ref D ∧ dd = some d ∧ ExcC K D ∧ xs = [.ref a, c] ∧ ClsV c cv ∧
  PySem.W.kitOne K (.ref D) cv = some b ∧ H d = some (.xd fs) ∧ Q (.bl b) H
theorem call_isD {X : Cx} {a : Addr} {cls : Value} {dd : Option Addr} {oe : Obj} {pn : List (Addr × Obj)} (hz : Zc cls dd oe) (hf : ∃ vs, oe.data = .fields vs) : CallR (X.suite a ((a, oe) :: pn)) (.builtin "isinstance") (rIsD X.K a cls dd) := by
  intro pins s σ H xs us Q I r h
  obtain ⟨D, d, c, cv, b, fs, rfl, rfl, T, rfl, hcv, e, hx, q⟩ := h
  obtain ⟨u1, u2, rfl, r1, r2⟩ : ∃ u1 u2, us = [u1, u2] ∧ RelV (.ref a) u1 ∧ RelV c u2 := by
    cases r with
    | cons r1 rr => cases rr with
      | cons r2 rr => cases rr; exact ⟨_, _, rfl, r1, r2⟩
  obtain rfl : u1 = Value.ref a := r1
  obtain rfl := hcv.eq r2
  obtain ⟨hget, _⟩ := I.pin (a, oe) (List.mem_append.mpr (.inl List.mem_cons_self))
  obtain ⟨vs, hv⟩ := hf
  obtain ⟨mA, hns, _⟩ := (show ObjOk X.prog X.w H s.heap d (.xd fs) from I.hok d _ hx)
  obtain ⟨od, ho, _⟩ := lookIn_ns hns
  have J : InstAt s.heap a oe D (some od) := ⟨hget, hz.1, by unfold PySem.W.notCls; rw [hv] <;> rfl, by rw [hz.2]; exact ho⟩
  exact PySem.W.kia_one (kitx_excD (ox := oe) T) I.kIn ⟨_, J⟩ e (fun z => nomatch z) fun tk => ⟨.bl b, H, I.kept (t' := tk) fun _ _ z => z, rfl, q⟩
end TK
/-! Own toolkit, part z: own exceptions with one or two fields: their __init__, their making. -/
namespace TK
open PySem PySem.Spec PyProof.Rows L2 NdefX
/-- what such an __init__ promises: the fields are kept -/
def spI (K : PySem.W.Frag) (D : Addr) (fs : List Str) : Sp := fun vs H Q _ => ∃ (a C : Addr) (xs : List V), vs = .ref a :: xs ∧ xs.length = fs.length ∧ H a = some (exo a C none) ∧ SupV K C D ∧ (∀ f ∈ fs, PySem.W.findIn K (.ref C) f = some none) ∧
  ∀ d, H d = none → d ≠ a → Q .non (upd (upd H a (exo a C (some d))) d (exd d (fs.zip xs).reverse))
theorem upd_swap {H : Hp} {a b : Addr} {o u : HO} (h : a ≠ b) : upd (upd H a o) b u = upd (upd H b u) a o := by
  funext c
  by_cases h1 : c = a
  · subst h1
    rw [upd_ne h, upd_same, upd_same]
  · by_cases h2 : c = b
    · subst h2
      rw [upd_same, upd_ne h1, upd_same]
    · rw [upd_ne h2, upd_ne h1, upd_ne h1, upd_ne h2]
section
variable {CX : CXT} {P : Program} {w : World} {K : PySem.W.Frag} {mg : Str → Option Value} {base : Heap} {F : NF} {fd : FuncData} {f D cc : Addr} {k : Nat} {p0 p1 p2 p3 p4 q1 q2 q3 q4 r0 r1 r2 r3 r4 : Pos} {msg f1 f2 : Str} {j : Nat}
/-- self.x = x, in such an __init__ -/
theorem ps_ownfld {X : Cx} {i : Nat} {g : Str} (h0 : X.N[0]? = some ("self" : Str)) (hv0 : Vis X.env.scope "self") (hi : X.N[i]? = some g) (hv : Vis X.env.scope g) (hd : (g == ("__debug__" : Str)) = false) (hcd : (g == ("__classdict__" : Str)) = false)
    (hs : swapsWith (.Name g q3) (some (.Attribute (.Name "self" q1) g q2)) q4.line X.env = pure false) :
    PS X (.Assign [.Attribute (.Name "self" q1) g q2] (.Name g q3) q4) (tOst X.K g (tVar 0) (tVar i)) := ps_ost (pe_var h0 hv0) (pe_var hi hv hd hcd) hs
theorem fn_init1 (S : SupF P K mg f fd F D cc) (hS : NScope ["self", f1, "__class__"] ["self", f1] ["__class__"] F.scope)
    (hbd : F.body = [.Expr (.Call (.Attribute (.Call (.Name "super" p0) [] [] p1) "__init__" p2) [.Constant (.str msg) j r0] [] p3) p4, .Assign [.Attribute (.Name "self" q1) f1 q2] (.Name f1 q3) q4])
    (hks : F.scope.names.lookup ("super" : Str) = some .globalImplicit) (hh : (F.params.posonlyargs ++ F.params.args).head?.map (·.arg) = some ("self" : Str)) (hd1 : (f1 == ("__debug__" : Str)) = false) (hc1 : (f1 == ("__classdict__" : Str)) = false)
    (hw1 : ∀ env : Env, swapsWith (.Name f1 q3) (some (.Attribute (.Name "self" q1) f1 q2)) q4.line env = pure false := by exact fun env => rfl)
    (hc : ∀ env : Env, ∃ pl, eval (.Call (.Attribute (.Call (.Name "super" p0) [] [] p1) "__init__" p2) [.Constant (.str msg) j r0] [] p3) env = (do
      let ov ← attributeBase (.Call (.Name "super" p0) [] [] p1) "__init__" env (eval (.Call (.Name "super" p0) [] [] p1) env)
      standAt p2.atName
      let (f, first) ← holding [ov] (getMethod ov "__init__" pl)
      callWith p3 f first (backTo p3 (starEach [.Constant (.str msg) j r0] env)) []) := by exact fun env => ⟨_, rfl⟩) :
    FnOk P w K mg base CX (k + 1) f fd ["self", f1] (spI K D [f1]) := by
  have hsl := hS.par "self" (by simp)
  have hfl := hS.par f1 (by simp)
  refine fn_super S hS hbd rfl hks (hS.frk "__class__" (by simp)) hsl hh (fun vs H Q E h => ?_) (fun A outer s H vs Q E hr h => ?_) hc
  · obtain ⟨a, C, xs, rfl, hl, _⟩ := h
    simp [hl]
  · obtain ⟨a, C, xs, rfl, hl, ha, hV, hn, q⟩ := h
    obtain ⟨x, rfl⟩ : ∃ x, xs = [x] := by
      match xs, hl with
      | [x], _ => exact ⟨x, rfl⟩
    refine ⟨a, C, [x], _, _, rfl, hV, ha, pa_cons pe_str pa_nil, pss_cons (ps_ownfld (i := 1) rfl (.inl hsl) rfl (.inl hfl) hd1 hc1 (hw1 _)) pss_nil, ?_⟩
    refine ⟨by simp, ha, ?_⟩
    refine ⟨x, rfl, .ref a, rfl, a, C, rfl, hV.ox, hn f1 (by simp), .inl ⟨ha, fun d hd ne => ?_⟩⟩
    have z := q d hd ne
    rw [upd_swap (Ne.symm ne)] at z
    exact z
theorem fn_init2 (S : SupF P K mg f fd F D cc) (hS : NScope ["self", f1, f2, "__class__"] ["self", f1, f2] ["__class__"] F.scope)
    (hbd : F.body = [.Expr (.Call (.Attribute (.Call (.Name "super" p0) [] [] p1) "__init__" p2) [.Constant (.str msg) j r0] [] p3) p4, .Assign [.Attribute (.Name "self" q1) f1 q2] (.Name f1 q3) q4, .Assign [.Attribute (.Name "self" r1) f2 r2] (.Name f2 r3) r4])
    (hks : F.scope.names.lookup ("super" : Str) = some .globalImplicit) (hh : (F.params.posonlyargs ++ F.params.args).head?.map (·.arg) = some ("self" : Str)) (hd1 : (f1 == ("__debug__" : Str)) = false) (hc1 : (f1 == ("__classdict__" : Str)) = false) (hd2 : (f2 == ("__debug__" : Str)) = false) (hc2 : (f2 == ("__classdict__" : Str)) = false)
    (hw1 : ∀ env : Env, swapsWith (.Name f1 q3) (some (.Attribute (.Name "self" q1) f1 q2)) q4.line env = pure false := by exact fun env => rfl)
    (hw2 : ∀ env : Env, swapsWith (.Name f2 r3) (some (.Attribute (.Name "self" r1) f2 r2)) r4.line env = pure false := by exact fun env => rfl)
    (hc : ∀ env : Env, ∃ pl, eval (.Call (.Attribute (.Call (.Name "super" p0) [] [] p1) "__init__" p2) [.Constant (.str msg) j r0] [] p3) env = (do
      let ov ← attributeBase (.Call (.Name "super" p0) [] [] p1) "__init__" env (eval (.Call (.Name "super" p0) [] [] p1) env)
      standAt p2.atName
      let (f, first) ← holding [ov] (getMethod ov "__init__" pl)
      callWith p3 f first (backTo p3 (starEach [.Constant (.str msg) j r0] env)) []) := by exact fun env => ⟨_, rfl⟩) :
    FnOk P w K mg base CX (k + 1) f fd ["self", f1, f2] (spI K D [f1, f2]) := by
  have hsl := hS.par "self" (by simp)
  have hfl := hS.par f1 (by simp)
  have hfl2 := hS.par f2 (by simp)
  refine fn_super S hS hbd rfl hks (hS.frk "__class__" (by simp)) hsl hh (fun vs H Q E h => ?_) (fun A outer s H vs Q E hr h => ?_) hc
  · obtain ⟨a, C, xs, rfl, hl, _⟩ := h
    simp [hl]
  · obtain ⟨a, C, xs, rfl, hl, ha, hV, hn, q⟩ := h
    obtain ⟨x, y, rfl⟩ : ∃ x y, xs = [x, y] := by
      match xs, hl with
      | [x, y], _ => exact ⟨x, y, rfl⟩
    refine ⟨a, C, [x, y], _, _, rfl, hV, ha, pa_cons pe_str pa_nil, pss_cons (ps_ownfld (i := 1) rfl (.inl hsl) rfl (.inl hfl) hd1 hc1 (hw1 _)) (pss_cons (ps_ownfld (i := 2) rfl (.inl hsl) rfl (.inl hfl2) hd2 hc2 (hw2 _)) pss_nil), ?_⟩
    refine ⟨by simp, ha, ?_⟩
    refine ⟨x, rfl, .ref a, rfl, a, C, rfl, hV.ox, hn f1 (by simp), .inl ⟨ha, fun d hd ne => ?_⟩⟩
    refine ⟨y, rfl, .ref a, rfl, a, C, rfl, hV.ox, hn f2 (by simp), .inr ⟨d, [(f1, x)], upd_same, by rw [upd_ne ne, upd_same], by simp, ?_⟩⟩
    have z := q d hd ne
    rw [upd_swap (Ne.symm ne)] at z
    rw [upd_swap (Ne.symm ne), upd_upd]
    exact z
end
section
variable {X : Cx} {CX : CXT} {x : Str} {C fI : Addr} {k : Nat} {fd : FuncData} {ps fs : List Str} {e : Expr} {es : List Expr} {ta : TA} {p pos : Pos}
/-- C(e, ..), C a class with such an __init__ -/
theorem pmk_flds (V : SupV X.K C C) (iC : PySem.W.findIn X.K (.ref C) "__init__" = some (some (.ref fI))) (tI : PySem.W.typeIn X.K (.ref fI) = some (.type "function")) (hn : ∀ f ∈ fs, PySem.W.findIn X.K (.ref C) f = some none)
    (F1 : FnOk X.prog X.w X.K X.mg X.base CX k fI fd ps (spI X.K C fs)) (hr : Room (k + 1) X.A) (hb : Binds X.K fd ps []) (hx : Passes CX X (fun _ _ _ => False)) (hg : Gl X x) (hm : X.mg x = some (.ref C)) (ha : PA X (e :: es) ta)
    (hdb : (x == ("__debug__" : Str)) = false := by decide) (he : starEach (e :: es) X.env = (false, eval e X.env) :: starEach es X.env := by rfl) (hpl : (backTo pos (starEach es X.env)).any (·.1) = false := by rfl) :
    PMk X (.Call (.Name x p) (e :: es) [] pos) (fun σ H Q => ta σ H fun vs H1 => vs.length = fs.length ∧ vs.length ≤ 1000 ∧ ∀ d, H1 d = none → Q (.ref C) (some d) (upd H1 d (.xd (fs.zip vs).reverse))) := by
  intro pins s σ H Q I h
  have ha' : PA X (e :: es) (fun σ' H' R => σ' = σ ∧ H' = H ∧ ∀ vs H1, (vs.length = fs.length ∧ vs.length ≤ 1000 ∧ ∀ d, H1 d = none → Q (.ref C) (some d) (upd H1 d (.xd (fs.zip vs).reverse))) → R vs H1) :=
    ⟨fun pos pins s σ' H' R I' z => by
      obtain ⟨rfl, rfl, imp⟩ := z
      exact thn (ha.run pos pins s _ _ _ I' h) fun us s1 ⟨vs, H1, I1, r1, q1⟩ => ⟨vs, H1, I1, r1, imp _ _ q1⟩⟩
  refine pmk_oex (dvs := []) V.ox iC tI F1 hr hb .nil hx hg hm ha' hdb he hpl pins s σ H Q I ⟨rfl, rfl, fun vs H1 ⟨hl, hz, q⟩ => ⟨hz, fun a hna => ⟨a, C, vs, by rw [List.append_nil], hl, upd_same, V, hn, fun d hd ne => ?_⟩⟩⟩
  have hd1 : H1 d = none := by rw [upd_ne ne] at hd; exact hd
  refine ⟨rfl, d, (fs.zip vs).reverse, by rw [upd_ne (Ne.symm ne), upd_same], upd_same, hd1, ?_⟩
  have e : upd (del (upd (upd (upd H1 a (exo a C none)) a (exo a C (some d))) d (exd d (fs.zip vs).reverse)) a) d (.xd (fs.zip vs).reverse) = upd H1 d (.xd (fs.zip vs).reverse) := by
    funext b
    by_cases h1 : b = d
    · subst h1
      rw [upd_same, upd_same]
    · rw [upd_ne h1, upd_ne h1]
      by_cases h2 : b = a
      · subst h2
        rw [del_same, hna]
      · rw [del_ne h2, upd_ne h1, upd_ne h2, upd_ne h2]
  rw [e]
  exact q d hd1
end
end TK
/-! Own toolkit, part i: what the top has left of own exception classes, as yes-or-no facts. -/
namespace TK
open PySem PySem.Spec PyProof.Rows L2 NdefX
theorem ba2 {a b : Bool} (h : (a && b) = true) : a = true ∧ b = true := Bool.and_eq_true_iff.mp h
def oexB (K : PySem.W.Frag) (C : Addr) : Bool := (match K.lookup C with
  | some ⟨.type ty, _, .cls cd, sl⟩ => decide (ty = "type") && (cd.hasDict && (!cd.hasDel && ((match cd.mro with
    | .ref c :: bm => decide (c = C) && PySem.HandSPX.refsVE bm
    | _ => false) && (match sl.toList with
    | [_, _, _, _, some (.builtin n), _] => decide (n = "ValueError.__new__")
    | _ => false))))
  | _ => false) && (decide (PySem.W.findIn K (.ref C) "__setattr__" = some (some (.builtin "object.__setattr__"))) && (decide (PySem.W.subIn K (.ref C) (.type "BaseException") = some true) &&
    (decide (PySem.W.typeIn K (.ref C) = some (.type "type")) && PySem.W.keepIn K (.ref C))))
theorem oexB_ok {K : PySem.W.Frag} {C : Addr} (h : oexB K C = true) : OexC K C := by
  obtain ⟨h1, h2⟩ := ba2 h
  obtain ⟨h3, h4⟩ := ba2 h2
  obtain ⟨h5, h6⟩ := ba2 h4
  obtain ⟨h7, h8⟩ := ba2 h6
  refine ⟨?_, of_decide_eq_true h3, of_decide_eq_true h5, of_decide_eq_true h7, h8⟩
  cases q : K.lookup C with
  | none =>
    rw [q] at h1
    cases h1
  | some o =>
    obtain ⟨oc, od, dt, osl⟩ := o
    rw [q] at h1
    cases oc with
    | type ty =>
      cases dt with
      | cls cd =>
        obtain ⟨n1, n2, n3, n4, n5, n6, n7, n8, n9, n10, n11⟩ := cd
        obtain ⟨a1, a2⟩ := ba2 h1
        obtain ⟨a3, a4⟩ := ba2 a2
        obtain ⟨a5, a6⟩ := ba2 a4
        obtain ⟨a7, a8⟩ := ba2 a6
        dsimp only at a3 a5 a7
        have e1 := of_decide_eq_true a1
        split at a7
        · rename_i c bm
          obtain ⟨b1, b2⟩ := ba2 a7
          have e2 := of_decide_eq_true b1
          split at a8
          · rename_i k0 k1 k2 k3 nn k5 hsl
            have e3 := of_decide_eq_true a8
            subst e1 e2 e3
            cases n6 with
            | false => cases a3
            | true =>
              cases n11 with
              | true => cases a5
              | false =>
                refine ⟨n1, n5, n4, n2, bm, n7, n8, n9, n10, od, k0, k1, k2, k3, k5, ?_, b2⟩
                obtain ⟨ls⟩ := osl
                obtain rfl : ls = _ := hsl
                rfl
          · cases a8
        · cases a7
      | _ => cases h1
    | _ => cases dt <;> cases h1
def supVB (K : PySem.W.Frag) (C D : Addr) : Bool := oexB K C && (decide (PySem.W.mroIn K C (.ref D) = some true) && (decide (PySem.W.ks_superIn K C D "__init__" = some (some (.builtin "ValueError.__init__"))) &&
  (decide (PySem.W.subIn K (.ref C) (.type "ValueError") = some true) && decide (PySem.W.nsIn K PySem.cStatics "thirdparty.any" = some none))))
theorem supVB_ok {K : PySem.W.Frag} {C D : Addr} (h : supVB K C D = true) : SupV K C D := by
  obtain ⟨h1, h2⟩ := ba2 h
  obtain ⟨h3, h4⟩ := ba2 h2
  obtain ⟨h5, h6⟩ := ba2 h4
  obtain ⟨h7, h8⟩ := ba2 h6
  exact ⟨oexB_ok h1, of_decide_eq_true h3, of_decide_eq_true h5, of_decide_eq_true h7, of_decide_eq_true h8⟩
def excCB (K : PySem.W.Frag) (C : Addr) : Bool := decide (PySem.W.findIn K (.ref C) "__getattribute__" = some (some (.builtin "BaseException.__getattribute__"))) && (decide (PySem.W.findIn K (.ref C) "__getattr__" = some none) && (decide (PySem.W.subIn K (.ref C) (.type "BaseException") = some true) &&
  (PySem.W.hasDictIn K C && (decide (PySem.W.findIn K (.ref C) "__class__" = some (some (.builtin "object.__class__"))) && (decide (PySem.W.specialIn K (.builtin "object.__class__") "__get__" = some (some (.builtin "getset_descriptor.__get__"))) &&
    (decide (PySem.W.takesIn K (.builtin "object.__class__") = some true) && decide (PySem.W.mroIn K C (.type "object") = some true)))))))
theorem excCB_ok {K : PySem.W.Frag} {C : Addr} (h : excCB K C = true) : ExcC K C := by
  obtain ⟨h1, h⟩ := ba2 h
  obtain ⟨h2, h⟩ := ba2 h
  obtain ⟨h3, h⟩ := ba2 h
  obtain ⟨h4, h⟩ := ba2 h
  obtain ⟨h5, h⟩ := ba2 h
  obtain ⟨h6, h⟩ := ba2 h
  obtain ⟨h7, h8⟩ := ba2 h
  exact ⟨of_decide_eq_true h1, of_decide_eq_true h2, of_decide_eq_true h3, h4, of_decide_eq_true h5, of_decide_eq_true h6, of_decide_eq_true h7, of_decide_eq_true h8⟩
/-- an own class whose instances have these fields: all that is asked of it -/
def ownB (K : PySem.W.Frag) (x : Str) (fs : List Str) : Bool := supVB K (He.ga K x) (He.ga K x) && (excCB K (He.ga K x) && (xfB K (He.ga K x) && (fs.all (fun f => decide (PySem.W.findIn K (.ref (He.ga K x)) f = some none)) &&
  (decide (PySem.W.findIn K (.ref (He.ga K x)) "__init__" = some (some (.ref (He.ma K (He.ga K x) "__init__")))) && decide (PySem.W.typeIn K (.ref (He.ma K (He.ga K x) "__init__")) = some (.type "function"))))))
structure Own (K : PySem.W.Frag) (x : Str) (fs : List Str) : Prop where
  v : SupV K (He.ga K x) (He.ga K x)
  e : ExcC K (He.ga K x)
  f : XfC K (He.ga K x)
  n : ∀ f ∈ fs, PySem.W.findIn K (.ref (He.ga K x)) f = some none
  i : PySem.W.findIn K (.ref (He.ga K x)) "__init__" = some (some (.ref (He.ma K (He.ga K x) "__init__")))
  t : PySem.W.typeIn K (.ref (He.ma K (He.ga K x) "__init__")) = some (.type "function")
theorem ownB_ok {K : PySem.W.Frag} {x : Str} {fs : List Str} (h : ownB K x fs = true) : Own K x fs := by
  obtain ⟨h1, h⟩ := ba2 h
  obtain ⟨h2, h⟩ := ba2 h
  obtain ⟨h3, h⟩ := ba2 h
  obtain ⟨h4, h⟩ := ba2 h
  obtain ⟨h5, h6⟩ := ba2 h
  exact ⟨supVB_ok h1, excCB_ok h2, xfB_ok h3, fun f hf => of_decide_eq_true (List.all_eq_true.mp h4 f hf), of_decide_eq_true h5, of_decide_eq_true h6⟩
/-! ### its __init__ -/
abbrev IniW : Type := Option (Str × Str × Arguments × FuncBody × Scope × Addr × Addr)
/-- the init function of class x -/
def iniW (K : PySem.W.Frag) (x : Str) : IniW := match K.lookup (He.ma K (He.ga K x) "__init__") with
  | some ⟨_, _, .func fd, _⟩ => some (fd.name, fd.qualname, fd.params, fd.body, fd.scope, fd.globals, fd.builtins)
  | _ => none
structure IniD where
  cls : Str
  qual : Str
  params : Arguments
  body : List Stmt
  scope : Scope
def IniD.val (d : IniD) : IniW := some ("__init__", d.qual, d.params, .stmts d.body, d.scope, mainGlobals, builtinsNs)
def IniD.nf (K : PySem.W.Frag) (d : IniD) : NF := ⟨"__init__", d.qual, d.params, d.body, d.scope, (fdOf K (d.cls, some "__init__")).closure, match (fdOf K (d.cls, some "__init__")).code with | .ref c => c | _ => 0⟩
def iniB (P : Program) (K : PySem.W.Frag) (d : IniD) : Bool := match K.lookup (He.ma K (He.ga K d.cls) "__init__") with
  | some ⟨_, _, .func fd, _⟩ => (match fd.defaults, fd.kwdefaults, fd.annotations with
    | .none, .none, none => true
    | _, _, _ => false) && (PySem.W.codeIn K fd.code d.qual && ((match fd.closure with
    | [(n, cc)] => decide (n = "__class__") && (match K.lookup cc with
      | some ⟨_, _, .cell (some (.ref D)), _⟩ => decide (D = He.ga K d.cls)
      | _ => false)
    | _ => false) && ((match fd.code with
    | .ref c => (match K.lookup c with
      | some ⟨_, _, .fields vs, _⟩ => (match (vs[2]? : Option Value) with
        | some (.str file _) => (P.main.file : Str) == file
        | _ => false)
      | _ => false)
    | _ => false) && !(P.main.scope.names.lookup ("super" : Str)).isSome)))
  | _ => false
theorem ini_ok {P : Program} {K : PySem.W.Frag} {mg : Str → Option Value} {d : IniD} (e : iniW K d.cls = d.val) (c : iniB P K d = true) (hD : ∃ cd, PySem.W.clsIn K (He.ga K d.cls) = some cd) (hs : mg "super" = none) :
    ∃ cc, SupF P K mg (He.ma K (He.ga K d.cls) "__init__") (fdOf K (d.cls, some "__init__")) (d.nf K) (He.ga K d.cls) cc := by
  unfold iniW at e
  unfold iniB at c
  have ef : fdOf K (d.cls, some "__init__") = match K.lookup (He.ma K (He.ga K d.cls) "__init__") with
    | some ⟨_, _, .func fd, _⟩ => fd
    | _ => fdNo := rfl
  cases q : K.lookup (He.ma K (He.ga K d.cls) "__init__") with
  | none =>
    rw [q] at c
    cases c
  | some o =>
    obtain ⟨oc, od, dt, osl⟩ := o
    rw [q] at c e ef
    cases dt with
    | func fd =>
      dsimp only at ef
      have e2 : (some (fd.name, fd.qualname, fd.params, fd.body, fd.scope, fd.globals, fd.builtins) : IniW) = (some (("__init__" : Str), d.qual, d.params, FuncBody.stmts d.body, d.scope, mainGlobals, builtinsNs) : IniW) := e
      obtain ⟨a1, a2⟩ := ba2 c
      obtain ⟨a3, a4⟩ := ba2 a2
      obtain ⟨a5, a6⟩ := ba2 a4
      obtain ⟨a7, a8⟩ := ba2 a6
      split at a1
      · rename_i z1 z2 z3
        split at a5
        · rename_i n cc hcl
          obtain ⟨b1, b2⟩ := ba2 a5
          split at b2
          · rename_i cl cld D csl hcc
            split at a7
            · rename_i cv hcv
              split at a7
              · rename_i ccl cdd vs ccs hcd
                split at a7
                · rename_i file tf hvs
                  refine ⟨cc, ⟨?_, ?_, ?_, ?_, ?_, hD, hs, ?_⟩⟩
                  · refine ⟨oc, od, osl, fd.doc, fd.pyModule, fd.closureTuple, ?_, by rw [ef]; exact q⟩
                    unfold IniD.nf
                    rw [ef, hcv]
                    obtain ⟨n1, n2, n3, n4, n5, n6, n7, n8, n9, n10, n11, n12, n13, n14, n15⟩ := fd
                    simp only [Option.some.injEq, Prod.mk.injEq] at e2
                    obtain ⟨y1, y2, y3, y4, y5, y6, y7⟩ := e2
                    dsimp only at z1 z2 z3 hcv
                    subst y1 y2 y3 y4 y5 y6 y7 z1 z2 z3 hcv
                    rfl
                  · show PySem.W.codeIn K (.ref (match (fdOf K (d.cls, some "__init__")).code with | .ref c => c | _ => 0)) d.qual = true
                    rw [ef, hcv]
                    rw [hcv] at a3
                    exact a3
                  · refine ⟨ccl, cdd, vs, ccs, file, tf, ?_, hvs, a7⟩
                    show K.lookup (match (fdOf K (d.cls, some "__init__")).code with | .ref c => c | _ => 0) = _
                    rw [ef, hcv]
                    exact hcd
                  · show (fdOf K (d.cls, some "__init__")).closure = _
                    rw [ef, hcl, of_decide_eq_true b1]
                  · refine ⟨cl, cld, csl, ?_⟩
                    rw [← of_decide_eq_true b2]
                    exact hcc
                  · cases w : (P.main.scope.names.lookup ("super" : Str)).isSome with
                    | false => rfl
                    | true =>
                      rw [w] at a8
                      cases a8
                · cases a7
              · cases a7
            · cases a7
          · cases b2
        · cases a5
      · cases a1
    | _ => cases c
/-! ### the hook with them -/
def asN (g : Addr → Option Obj) (n : Nat) : List Addr := PySem.cStatics :: He.asD g n
abbrev AlN : Type := AlM × List IniW
def obsN (n : Nat) (fa : List He.Fa) (fn : List He.DefD) (ex : Ex) (fi : List IniD) (g : Addr → Option Obj) : AlN :=
  ((He.obsD fa fn (He.frG g (asN g n)), exB ex (He.frG g (asN g n))), fi.map fun d => iniW (He.frG g (asN g n)) d.cls)
structure FactsN (fa : List He.Fa) (fn : List He.DefD) (ex : Ex) (fi : List IniD) (K : PySem.W.Frag) (mg : Str → Option Value) : Prop where
  b : Facts fa fn ex K mg
  ini : (fi.map fun d => iniW K d.cls) = fi.map IniD.val
def hookN (n : Nat) (fa : List He.Fa) (fn : List He.DefD) (ex : Ex) (fi : List IniD) : PySem.W.Hook where
  α := AlN
  obs := fun s => obsN n fa fn ex fi s.heap.get?
  val := fun _ => ((He.valD fn, true), fi.map IniD.val)
  says := fun _ h => ∃ K : PySem.W.Frag, K.In h ∧ He.SaysD fa fn K ∧ exB ex K = true ∧ (fi.map fun d => iniW K d.cls) = fi.map IniD.val
  of := fun _ _ e => ⟨_, He.frG_in, congrArg (fun z : AlN => z.1.1) e, congrArg (fun z : AlN => z.1.2) e, congrArg (fun z : AlN => z.2) e⟩
  keeps := fun _ _ _ ⟨K, hK, c⟩ k => ⟨K, PySem.W.Frag.In.keeps hK k, c⟩
theorem obsN_eq {n : Nat} {fa : List He.Fa} {fn : List He.DefD} {ex : Ex} {fi : List IniD} {g : Addr → Option Obj} {s : Shared} (h : ∀ a, g a = s.heap.get? a) : obsN n fa fn ex fi g = (hookN n fa fn ex fi).obs s := by
  obtain rfl : g = s.heap.get? := funext h
  rfl
theorem FactsN.ini_ {fa : List He.Fa} {fn : List He.DefD} {ex : Ex} {fi : List IniD} {K : PySem.W.Frag} {mg : Str → Option Value} (T : FactsN fa fn ex fi K mg) (i : Nat) (d : IniD) (h : fi[i]? = some d := by rfl) : iniW K d.cls = d.val := by
  have e2 : (fi.map fun d => iniW K d.cls)[i]? = (fi.map IniD.val)[i]? := by rw [T.ini]
  rw [List.getElem?_map, List.getElem?_map, h] at e2
  exact Option.some.inj e2
theorem FactsN.supF {fa : List He.Fa} {fn : List He.DefD} {ex : Ex} {fi : List IniD} {K : PySem.W.Frag} {mg : Str → Option Value} {P : Program} {fs : List Str} (T : FactsN fa fn ex fi K mg) (i : Nat) (d : IniD) (c : iniB P K d = true) (o : Own K d.cls fs) (hs : mg "super" = none) (h : fi[i]? = some d := by rfl) :
    ∃ cc, SupF P K mg (He.ma K (He.ga K d.cls) "__init__") (fdOf K (d.cls, some "__init__")) (d.nf K) (He.ga K d.cls) cc := by
  refine ini_ok (T.ini_ i d h) c ?_ hs
  obtain ⟨cd, z, _⟩ := PySem.W.any_some o.f.hdC
  exact ⟨cd, z⟩
/-- as row_by, with them -/
theorem row_byN {l : PySem.W.OpenLaw} {i : Nat} {fa : List He.Fa} {fn : List He.DefD} {ex : Ex} {fi : List IniD} {d : DefRec} {k : Nat} {q : Program} {loose : List Str} {XP : (Str → Option Value) → Heap → Prop} {sp : PySem.W.Frag → Sp} {f : PySem.W.Frag → Addr} {fd : PySem.W.Frag → FuncData}
    (hn : l.most = some 63) (hdf : d.params.defaults = []) (hr : Room k callerA) (hdn : d.name = ("law" : Str)) (hf : ∀ K mg, FactsN fa fn ex fi K mg → mg ("law" : Str) = some (.ref (f K)))
    (hb : ∀ K mg, FactsN fa fn ex fi K mg → ∀ (s : Shared) (u : Value), BindsTo s (fd K) ⟨[u], []⟩ [("script", u)])
    (hsp : ∀ (K : PySem.W.Frag) (H : Hp) (a : Addr) (ns : List Int), ns.length ≤ 63 → Only H → SqL K H a (ns.map V.int) → sp K [.ref a] H (fun v _ => v = .bl true) fun _ _ _ => False)
    (hF : ∀ (w : World) K mg base, FactsN fa fn ex fi K mg → FnOk l.prog w K mg base CX0 k (f K) (fd K) ["script"] (sp K)) :
    PySem.W.WalkO q loose XP (hookN i fa fn ex fi).says l.row.toRowW d [] (fun f vs => PySem.call f vs) := by
  refine L2.walk_ofE (l := l) (n := 63) (k := k) (x := "script") (CX := L2.CX0) hn (by decide) hdf hr (fun {w mg fa'} h Y G hmg0 => ?_) (fun _ _ _ _ z => z)
  obtain ⟨K, KX, c, cx, ci⟩ := Y
  have T : FactsN fa fn ex fi K mg := ⟨⟨⟨h, KX, G⟩, c, cx⟩, ci⟩
  rw [hdn, hf K mg T] at hmg0
  cases hmg0
  exact ⟨K, fd K, sp K, KX, hb K mg T, hsp K, fun base _ _ => hF w K mg base T⟩
end TK
/-! Own toolkit, part p: as part s, but a tuple may be one that is kept as an object (Rd). -/
namespace TK
open PySem PySem.Spec PyProof.Rows L2
inductive D where
  | non
  | bl (b : Bool)
  | int (i : Int)
  | str (s : Str)
  | lst (l : List D)
  | tup (l : List D)
/-- items by items -/
inductive AllI (R : V → D → Prop) : List V → List D → Prop
  | nil : AllI R [] []
  | cons {v d vs ds} (h : R v d) (t : AllI R vs ds) : AllI R (v :: vs) (d :: ds)
/-- the value v is, in the heap H, the tree d -/
inductive Is (H : Hp) : V → D → Prop
  | non : Is H .non .non
  | bl (b : Bool) : Is H (.bl b) (.bl b)
  | int (i : Int) : Is H (.int i) (.int i)
  | str (s : Str) (h : s.length ≤ sizeLine) : Is H (.str s) (.str s)
  | lst {p : Addr} {vs : List V} {ds : List D} (e : H p = some (.lst vs)) (z : vs.length ≤ sizeLine) (a : AllI (Is H) vs ds) : Is H (.ref p) (.lst ds)
  | tup {p : Addr} {vs : List V} {ds : List D} (e : Rd H p (.tup vs)) (z : vs.length ≤ sizeLine) (a : AllI (Is H) vs ds) : Is H (.ref p) (.tup ds)
theorem rd_same {H H' : Hp} {p : Addr} {u : HO} (s : Same H H') (h : Rd H p u) : Rd H' p u := h.imp (s _ _) fun ⟨o, e⟩ => ⟨o, s _ _ e⟩
theorem sqT_same {K : PySem.W.Frag} {H H' : Hp} {p : Addr} {vs : List V} (s : Same H H') (h : SqT K H p vs) : SqT K H' p vs := h.imp (rd_same s) id
mutual
theorem Is.mono {H H' : Hp} (s : Same H H') : ∀ {v : V} {d : D}, Is H v d → Is H' v d
  | _, _, .non => .non
  | _, _, .bl b => .bl b
  | _, _, .int i => .int i
  | _, _, .str x h => .str x h
  | _, _, .lst e z a => .lst (s _ _ e) z (AllI.mono s a)
  | _, _, .tup e z a => .tup (rd_same s e) z (AllI.mono s a)
theorem AllI.mono {H H' : Hp} (s : Same H H') : ∀ {vs : List V} {ds : List D}, AllI (Is H) vs ds → AllI (Is H') vs ds
  | _, _, .nil => .nil
  | _, _, .cons h t => .cons (Is.mono s h) (AllI.mono s t)
end
theorem AllI.len {R : V → D → Prop} : ∀ {vs : List V} {ds : List D}, AllI R vs ds → vs.length = ds.length
  | _, _, .nil => rfl
  | _, _, .cons _ t => by rw [List.length_cons, List.length_cons, t.len]
theorem AllI.get {R : V → D → Prop} : ∀ {vs : List V} {ds : List D} (_ : AllI R vs ds) {i : Nat} {v : V}, vs[i]? = some v → ∃ d, ds[i]? = some d ∧ R v d
  | _, _, .cons h t, 0, v, e => by
    have e : some _ = some v := e
    cases e
    exact ⟨_, rfl, h⟩
  | _, _, .cons h t, i + 1, v, e => t.get (i := i) e
theorem AllI.app {R : V → D → Prop} : ∀ {vs : List V} {ds : List D} {us : List V} {es : List D}, AllI R vs ds → AllI R us es → AllI R (vs ++ us) (ds ++ es)
  | _, _, _, _, .nil, b => b
  | _, _, _, _, .cons h t, b => .cons h (t.app b)
theorem AllI.one {R : V → D → Prop} {v : V} {d : D} (h : R v d) : AllI R [v] [d] := .cons h .nil
def D.kd : D → String
  | .non => "NoneType"
  | .bl _ => "bool"
  | .int _ => "int"
  | .str _ => "str"
  | .lst _ => "list"
  | .tup _ => "tuple"
theorem Is.ty {K : PySem.W.Frag} {H : Hp} {v : V} {d : D} (h : Is H v d) : TyX K H v (.type d.kd) := by
  cases h with
  | non => exact .base .non
  | bl b => exact .base (.bl b)
  | int i => exact .base (.int i)
  | str s _ => exact .base (.str s)
  | lst e _ _ => exact .base (.lst e)
  | tup e _ _ =>
    rcases e with e | ⟨o, e⟩
    · exact .base (.tup e)
    · exact .fTuple e
/-- isinstance(x, T) of such a value -/
theorem isi_D {K : PySem.W.Frag} {H : Hp} {v : V} {d : D} {T : String} {b : Bool} {Q : VK} (h : Is H v d) (e : kitB d.kd T = some b) (q : Q (.bl b) H) : rIsi K [v, .ty T] H Q :=
  ⟨v, .ty T, .type d.kd, .type T, b, rfl, .ty _, h.ty, kit_ty e, q⟩
theorem cb_isi {K : PySem.W.Frag} {i : Nat} {T : String} {b : Bool} {σ : L2.St} {H : Hp} {Q : VK} {v : V} {d : D} (hs : σ[i]? = some (some v)) (h : Is H v d) (e : kitB d.kd T = some b) (q : Q (.bl b) H) :
    tCB (rIsi K) (tCons (tVar i) (tCons (tC (.ty T)) tNil)) σ H Q := ⟨v, hs, isi_D h e q⟩
/-- the same tree twice, of a kind R: told alike -/
def sp_same (R : D → Prop) : Sp := fun vs H Q _ => ∃ (x y : V) (d : D), vs = [x, y] ∧ Is H x d ∧ Is H y d ∧ R d ∧ ∀ H', Same H H' → Q (.bl true) H'
theorem same_end {H : Hp} {Q : VK} {a : V} (q : ∀ H', Same H H' → Q (.bl true) H') : Q (.bl (decide (a = a))) H := by
  rw [decide_eq_true rfl]
  exact q H (Same.refl H)
def Deeper (R : D → Prop) : D → Prop
  | .lst l => ∀ x ∈ l, R x
  | .tup l => ∀ x ∈ l, R x
  | _ => True
/-- trees of a depth -/
def Fits : Nat → D → Prop
  | 0 => fun _ => False
  | n + 1 => Deeper (Fits n)
theorem ok_never {P : Program} {w : World} {K : PySem.W.Frag} {mg : Str → Option Value} {base : Heap} {CX : CXT} {k : Nat} {f : Addr} {fd : FuncData} {ps : List Str} : FnOk P w K mg base CX k f fd ps (fun _ _ _ _ => False) :=
  ⟨fun _ _ _ _ h => h.elim, fun _ _ _ _ _ _ _ _ _ _ _ _ _ h => h.elim⟩
/-- a while, with a word of one's own and a number that falls -/
theorem while_m {c : TT} {tb : TS} {D : Ends} {σ : L2.St} {H : Hp} (W : Nat → L2.St → Hp → Prop) (m0 : Nat) (h0 : W m0 σ H)
    (hs : ∀ m σ H, W m σ H → c σ H fun b H1 => if b = true then ∃ N : L2.St → Hp → Prop, (∀ σ' H', N σ' H' → ∃ m', m' < m ∧ W m' σ' H') ∧ tb { D with nx := N, ct := N, bk := D.nx } σ H1 else D.nx σ H1) : tWhile c tb D σ H := ⟨W, ⟨m0, h0⟩, hs⟩
end TK
/-! Own toolkit, part t: a text times a number. -/
namespace TK
open PySem PySem.Spec PyProof.Rows L2
def rMulS : R2 := fun x y H Q => ∃ (z : Str) (n : Nat), x = .str z ∧ y = .int n ∧ z.length ≤ 1000 ∧ n ≤ 1000 ∧ ∀ r : Str, r.cps.toList = (List.replicate n z.cps.toList).flatten → Q (.str r) H
theorem fold_cps (z : Array Nat) : ∀ (n : Nat) (a : Array Nat), ((List.replicate n z).foldl (· ++ ·) a).toList = a.toList ++ (List.replicate n z.toList).flatten
  | 0, a => by simp
  | n + 1, a => by
    rw [List.replicate_succ, List.foldl_cons, fold_cps z n (a ++ z), List.replicate_succ, List.flatten_cons]
    simp
theorem op_mul_str {X : Cx} : OpR X (binaryOp .Mult) rMulS := by
  intro pins s σ H x y v u Q I rx ry h
  obtain ⟨z, n, rfl, rfl, hz, hn, q⟩ := h
  obtain ⟨t, rfl⟩ := rx
  obtain ⟨t', rfl⟩ := ry
  have hlen : z.length * n ≤ 1000000 := Nat.mul_le_mul hz hn
  refine PySem.P.mul_str (by rw [decide_eq_false (by omega), decide_eq_false (by omega)]; rfl) (fun h1 _ => ?_) (fun _ _ => ?_) ?_
  · have : (1000 : Int) ≤ (2 ^ 63 - 1) / (n : Int) := Int.le_ediv_of_mul_le (by omega) (by omega)
    omega
  · show (decide (z.length * (n : Int).toNat > sizeLine)) = false
    rw [Int.toNat_natCast, decide_eq_false_iff_not, sizeLine_eq]
    omega
  · by_cases h1 : (n : Int) < 1
    · rw [if_pos h1]
      have : n = 0 := by omega
      subst this
      exact ⟨by decide, .str Str.empty, H, I.tok _, ⟨_, rfl⟩, q _ rfl⟩
    · rw [if_neg h1]
      by_cases h2 : ((n : Int) == 1 || z.length == 0) = true
      · rw [if_pos h2]
        refine ⟨.str z, H, I, ⟨_, rfl⟩, q _ ?_⟩
        rcases Bool.or_eq_true_iff.mp h2 with e | e
        · have : n = 1 := by have := beq_iff_eq.mp e; omega
          subst this
          simp
        · have : z.cps.toList = [] := List.length_eq_zero_iff.mp (by rw [← len_cps]; exact beq_iff_eq.mp e)
          rw [this]
          simp
      · rw [if_neg h2]
        refine ⟨?_, .str _, H, I.tok _, ⟨_, rfl⟩, q _ ?_⟩
        · rw [len_cps, Int.toNat_natCast]
          show (((List.replicate n z.cps).foldl (· ++ ·) #[]).toList).length ≤ _
          rw [fold_cps, List.length_append, List.length_flatten, List.map_replicate, List.sum_replicate_nat, Nat.mul_comm, sizeLine_eq]
          rw [len_cps] at hlen
          show 0 + _ ≤ _
          omega
        · rw [Int.toNat_natCast]
          show ((List.replicate n z.cps).foldl (· ++ ·) #[]).toList = _
          rw [fold_cps]
          simp
end TK
namespace TK
open PySem PySem.Spec PyProof.Rows L2
/-! the rules that name the written part, told with it (within a comprehension) -/
section
variable {X : Cx} {K : PySem.W.Frag}
theorem ix_K (h : X.K = K := by rfl) : IxR X (rIxA K) := h ▸ ix_A
theorem op_addK (h : X.K = K := by rfl) : OpR X (binaryOp .Add) (rAddA K) := h ▸ op_addA
theorem call_lenK (h : X.K = K := by rfl) : CallR X (.builtin "len") (fun xs H Q => rLenS xs H Q ∨ rLenL K xs H Q) := h ▸ call_lenA
theorem op_inK (h : X.K = K := by rfl) : OpR X (compareOp .In) (fun x y H Q => rInSign x y H Q ∨ rInQ K x y H Q) := h ▸ op_inA
theorem op_ninK (h : X.K = K := by rfl) : OpR X (compareOp .NotIn) (fun x y H Q => rNinSign x y H Q ∨ rNinQ K x y H Q) := h ▸ op_ninA
theorem sl_K (h : X.K = K := by rfl) : SlR X (fun x l u H Q => rSlS x l u H Q ∨ rSlL K x l u H Q ∨ rSlT K x l u H Q) := h ▸ sl_A
end
end TK
namespace TK
open PySem PySem.Spec PyProof.Rows L2
/-- a new object: the heap with it as one letter (generalize e : upd H p _ = G) -/
theorem new_of {H G : Hp} {p : Addr} {o : HO} (e : upd H p o = G) (np : H p = none) : Same H G ∧ G p = some o := e ▸ ⟨same_new np, upd_same⟩
end TK
/-! Own toolkit, part d: own classes' special methods by the operators (len, in, [], + - and the like, ~). -/
namespace TK
open PySem PySem.Spec PyProof.Rows L2
section
variable {X : Cx} {CX : CXT} {k : Nat} {C f : Addr} {fd : FuncData} {ps : List Str} {sp : Sp} {E : XK} {pins : List (Addr × Obj)} {σ : L2.St} {H : Hp} {s : Shared}
theorem vref (p : Addr) : RelV (.ref p) (Value.ref p) := rfl
/-- a callee runs, deeper by one -/
theorem run_fn1 {A' : Around} (hA : A'.frames = X.A.frames) {Q : VK} {us : List Value} {vs : List V} (F : FnOk X.prog X.w X.K X.mg X.base CX k f fd ps sp) (hr : Room k A') (hb : Binds X.K fd ps []) (hx : Passes CX X E)
    (I : Inv X pins σ H s) (r : Vals vs us) (h : sp vs H Q E) : wpAny (model X.prog X.w) A' (call (.ref f) us) (EP X pins σ Q) X.xe s := by
  have hl : (us ++ []).length = ps.length := by rw [List.append_nil, ← r.length]; exact F.len _ _ _ _ h
  have e := I.env0
  have e1 : Env0 X.prog X.w X.K X.mg X.base A' X.stack s H := ⟨by rw [hA]; exact e.frames, e.mod, e.bs, e.bsz, e.funs, e.frf, e.hok, e.bare⟩
  have hbs := hb s us I.kIn hl
  rw [List.append_nil] at hbs
  refine wpAny_call (codeAny_mono (F.run A' X.stack s H ⟨us, []⟩ us vs Q E hr e1 hbs r h) fun r s' hq => ?_)
  cases r with
  | error e => exact hx pins σ H s e s' I hq
  | ok fl =>
    cases fl with
    | ret u => exact I.after hq
    | next => exact False.elim hq
    | brk => exact False.elim hq
    | cont => exact False.elim hq
theorem inst_at {a dx : Addr} {fs : List (Str × V)} (I : Inv X pins σ H s) (e : H a = some (.ins C dx fs)) : ∃ od, PySem.W.InstAt s.heap a (PySem.W.instObj C dx) C (some od) := by
  obtain ⟨mA, O, _⟩ := ins_get I.hok e
  obtain ⟨od, J, _⟩ := O.look
  exact ⟨od, J⟩
/-- a value of the layer is never NotImplemented -/
theorem cmp_back {Q : VK} {u : Value} {s' : Shared} (h : EP X pins σ Q u s') : PySem.W.CmpBack (EP X pins σ Q) u s' := by
  obtain ⟨v, H', I', rv, q⟩ := h
  cases v with
  | non => cases rv; exact ⟨.non, H', I', rfl, q⟩
  | bl b => cases rv; exact ⟨.bl b, H', I', rfl, q⟩
  | int i => obtain ⟨t, rfl⟩ := rv; exact ⟨.int i, H', I', ⟨t, rfl⟩, q⟩
  | str x => obtain ⟨t, rfl⟩ := rv; exact ⟨.str x, H', I', ⟨t, rfl⟩, q⟩
  | byt b => obtain ⟨t, rfl⟩ := rv; exact ⟨.byt b, H', I', ⟨t, rfl⟩, q⟩
  | flt b => obtain ⟨t, rfl⟩ := rv; exact ⟨.flt b, H', I', ⟨t, rfl⟩, q⟩
  | ref a => cases rv; exact ⟨.ref a, H', I', rfl, q⟩
  | ty n => cases rv; exact ⟨.ty n, H', I', rfl, q⟩
/-- len(o) -/
def rLenO (C : Addr) (sp : Sp) (E : XK) : List V → Hp → VK → Prop := fun xs H Q => ∃ p dx fs, xs = [.ref p] ∧ H p = some (.ins C dx fs) ∧ sp [.ref p] H (fun v H' => ∃ n : Int, v = .int n ∧ (0 ≤ n ∧ n < 2 ^ 63) ∧ Q (.int n) H') E
theorem call_lenO (m : Meth X.K C "__len__" f) (F : FnOk X.prog X.w X.K X.mg X.base CX k f fd ps sp) (hr : Room (k + 1) X.A) (hb : Binds X.K fd ps []) (hx : Passes CX X E) : CallR X (.builtin "len") (rLenO C sp E) := by
  intro pins s σ H xs us Q I rv h
  obtain ⟨p, dx, fs, rfl, ep, hs⟩ := h
  obtain ⟨u, rfl, ru⟩ := rv.one
  cases ru
  obtain ⟨od, J⟩ := inst_at I ep
  obtain ⟨m0, hF⟩ := I.fr
  refine PySem.W.len_K hF I.ok.mod.kin J m.at_ m.fn (wpAny_mono (run_fn1 (A' := X.A.in1) rfl F hr.in1 hb hx I (.cons (vref _) .nil) hs) (fun u s' z => ?_) fun _ _ z => z)
  obtain ⟨v, H', I', rv, n, rfl, hn, q⟩ := z
  obtain ⟨t, rfl⟩ := rv
  exact ⟨hn, .int n, H', I'.tok _, ⟨_, rfl⟩, q⟩
/-- v in o, v not in o -/
def rInO (C : Addr) (sp : Sp) (E : XK) (g : Bool → Bool) : R2 := fun x y H Q => ∃ p dx fs, y = .ref p ∧ H p = some (.ins C dx fs) ∧ sp [.ref p, x] H (fun v H' => ∃ b : Bool, v = .bl b ∧ Q (.bl (g b)) H') E
theorem op_inO (m : Meth X.K C "__contains__" f) (F : FnOk X.prog X.w X.K X.mg X.base CX k f fd ps sp) (hr : Room k X.A) (hb : Binds X.K fd ps []) (hx : Passes CX X E) : OpR X (compareOp .In) (rInO C sp E id) := by
  intro pins s σ H x y v u Q I rx ry h
  obtain ⟨p, dx, fs, rfl, ep, hs⟩ := h
  cases ry
  obtain ⟨od, J⟩ := inst_at I ep
  obtain ⟨m0, hF⟩ := I.fr
  refine PySem.W.in_K hF I.ok.mod.kin J m.at_ m.fn (wpAny_mono (run_fn1 (A' := X.A) rfl F hr hb hx I (.cons (vref _) (.cons rx .nil)) hs) (fun u s' z => ?_) fun _ _ z => z)
  obtain ⟨v, H', I', rv, b, rfl, q⟩ := z
  cases rv
  exact wpAny_pure ⟨.bl b, H', I', rfl, q⟩
theorem op_ninO (m : Meth X.K C "__contains__" f) (F : FnOk X.prog X.w X.K X.mg X.base CX k f fd ps sp) (hr : Room k X.A) (hb : Binds X.K fd ps []) (hx : Passes CX X E) : OpR X (compareOp .NotIn) (rInO C sp E not) := by
  intro pins s σ H x y v u Q I rx ry h
  obtain ⟨p, dx, fs, rfl, ep, hs⟩ := h
  cases ry
  obtain ⟨od, J⟩ := inst_at I ep
  obtain ⟨m0, hF⟩ := I.fr
  refine PySem.W.notIn_K hF I.ok.mod.kin J m.at_ m.fn (wpAny_mono (run_fn1 (A' := X.A) rfl F hr hb hx I (.cons (vref _) (.cons rx .nil)) hs) (fun u s' z => ?_) fun _ _ z => z)
  obtain ⟨v, H', I', rv, b, rfl, q⟩ := z
  cases rv
  exact wpAny_pure ⟨.bl (!b), H', I', rfl, q⟩
/-- o[i] -/
def rDun (C : Addr) (sp : Sp) (E : XK) : R2 := fun x y H Q => ∃ p dx fs, x = .ref p ∧ H p = some (.ins C dx fs) ∧ sp [.ref p, y] H Q E
theorem pe_ixO {a b : Expr} {ta tb : TE} {pos : Pos} (m : Meth X.K C "__getitem__" f) (hfn : PySem.W.fnIn X.K f = true) (F : FnOk X.prog X.w X.K X.mg X.base CX k f fd ps sp) (hr : Room (k + 1) X.A) (hb : Binds X.K fd ps []) (hx : Passes CX X E)
    (ha : PE X a ta) (hi : PE X b tb) (hs : ∀ v u, subscripted b true v u = runValue (.builtin "lifetime.subscript" ⟨[v, u], []⟩) := by intro _ _; rfl) : PE X (.Subscript a b pos) (tOp (rDun C sp E) ta tb) := by
  refine ⟨fun pins s σ H Q I h => ?_⟩
  refine Subscript_ (binT ha hi I h fun v u s2 x y H2 I2 rx ry q => ?_)
  obtain ⟨p, dx, fs, rfl, ep, hq⟩ := q
  cases rx
  obtain ⟨od, J⟩ := inst_at I2 ep
  obtain ⟨m0, hF⟩ := I2.fr
  exact PySem.W.sub_K hF I2.ok.mod.kin J m.at_ hfn m.fn (run_fn1 (A' := X.A.in1) rfl F hr.in1 hb hx I2 (.cons (vref _) (.cons ry .nil)) hq) (hs _ _)
/-- what an own class and a built-in type are to an operator -/
def binTB (K : PySem.W.Frag) (C : Addr) (nm T : String) : Bool :=
  PySem.W.selfFirst K C && (match PySem.W.findIn K (.ref C) (dunderR nm) with | some none => true | some (some (.ref _)) => true | _ => false) &&
  (PySem.W.findIn K (.type T) (PySem.dunder nm)).isSome && (PySem.W.findIn K (.type T) (dunderR nm)).isSome && PySem.W.subIn K (.type T) (.ref C) == some false
def rDunT (C : Addr) (T : String) (sp : Sp) (E : XK) : R2 := fun x y H Q => ∃ p dx fs, x = .ref p ∧ H p = some (.ins C dx fs) ∧ (∀ u, RelV y u → typeOf u = pure (.type T)) ∧ sp [.ref p, y] H Q E
theorem op_ownT {op : Operator} {T : String} (m : Meth X.K C (PySem.dunder op.info.2) f) (hB : binTB X.K C op.info.2 T = true) (F : FnOk X.prog X.w X.K X.mg X.base CX k f fd ps sp) (hr : Room k X.A) (hb : Binds X.K fd ps []) (hx : Passes CX X E) :
    OpR X (binaryOp op) (rDunT C T sp E) := by
  intro pins s σ H x y v u Q I rx ry h
  obtain ⟨p, dx, fs, rfl, ep, hT, hs⟩ := h
  cases rx
  obtain ⟨od, J⟩ := inst_at I ep
  obtain ⟨m0, hF⟩ := I.fr
  unfold binTB at hB
  simp only [Bool.and_eq_true, beq_iff_eq] at hB
  obtain ⟨⟨⟨⟨h1, h2⟩, h3⟩, h4⟩, h5⟩ := hB
  obtain ⟨fo, e3⟩ := Option.isSome_iff_exists.mp h3
  obtain ⟨ro, e4⟩ := Option.isSome_iff_exists.mp h4
  obtain ⟨rc, e2, p2⟩ : ∃ rc, PySem.W.findIn X.K (.ref C) (dunderR op.info.2) = some rc ∧ (rc = none ∨ ∃ g : Addr, rc = some (.ref g)) := by
    cases q : PySem.W.findIn X.K (.ref C) (dunderR op.info.2) with
    | none => rw [q] at h2; cases h2
    | some rc =>
      rw [q] at h2
      cases rc with
      | none => exact ⟨_, rfl, .inl rfl⟩
      | some v => cases v <;> first | exact ⟨_, rfl, .inr ⟨_, rfl⟩⟩ | cases h2
  exact PySem.W.ksp_binT hF I.ok.mod.kin J (hT _ ry) h1 m.at_ m.fn e2 p2 e3 e4 h5 (wpAny_mono (run_fn1 (A' := X.A) rfl F hr hb hx I (.cons (vref _) (.cons ry .nil)) hs) (fun _ _ z => cmp_back z) fun _ _ z => z)
/-- o op= y -/
theorem ip_own {op : Operator} (m : Meth X.K C (dunderI op.info.2) f) (hc : PySem.W.selfFirst X.K C = true) (F : FnOk X.prog X.w X.K X.mg X.base CX k f fd ps sp) (hr : Room k X.A) (hb : Binds X.K fd ps []) (hx : Passes CX X E) : PIp X op (rDun C sp E) := by
  intro pins s σ H x y v u Q I rx ry h
  obtain ⟨p, dx, fs, rfl, ep, hs⟩ := h
  cases rx
  obtain ⟨od, J⟩ := inst_at I ep
  obtain ⟨m0, hF⟩ := I.fr
  exact PySem.W.ksp_inplace hF I.ok.mod.kin J hc m.at_ m.fn (wpAny_mono (run_fn1 (A' := X.A) rfl F hr hb hx I (.cons (vref _) (.cons ry .nil)) hs) (fun _ _ z => cmp_back z) fun _ _ z => z)
/-- ~o -/
def rDun1 (C : Addr) (sp : Sp) (E : XK) : V → Hp → VK → Prop := fun x H Q => ∃ p dx fs, x = .ref p ∧ H p = some (.ins C dx fs) ∧ sp [.ref p] H Q E
theorem un_invO (m : Meth X.K C "__invert__" f) (F : FnOk X.prog X.w X.K X.mg X.base CX k f fd ps sp) (hr : Room k X.A) (hb : Binds X.K fd ps []) (hx : Passes CX X E) : UnR X (unaryOp .Invert) (rDun1 C sp E) := by
  intro pins s σ H x v Q I rx h
  obtain ⟨p, dx, fs, rfl, ep, hs⟩ := h
  cases rx
  obtain ⟨od, J⟩ := inst_at I ep
  obtain ⟨m0, hF⟩ := I.fr
  exact PySem.W.ksp_inv hF I.ok.mod.kin J m.at_ m.fn (run_fn1 (A' := X.A) rfl F hr hb hx I (.cons (vref _) .nil) hs)
end
end TK
/-! Own toolkit, part e: iter(t) of a tuple, loops over own classes whose __iter__ gives such an iterator. -/
namespace TK
open PySem PySem.Spec PyProof.Rows L2
/-- at it an iterator over the tuple at l, not begun -/
def TIt (l it : Addr) : HO := .ext fun h => h.IsTupleIter it l 0
/-- a def's promise that knows how many objects there were -/
structure FnS (P : Program) (w : World) (K : PySem.W.Frag) (mg : Str → Option Value) (base : Heap) (CX : CXT) (k : Nat) (f : Addr) (fd : FuncData) (ps : List Str) (sp : Nat → Sp) : Prop where
  many : ∀ n vs H Q E, sp n vs H Q E → vs.length = ps.length
  goes : ∀ (A : Around) (outer : List Env) (s : Shared) (H : Hp) (args : Args) (us : List Value) (vs : List V) (Q : VK) (E : XK), Room k A → Env0 P w K mg base A outer s H → BindsTo s fd args (ps.zip us) → Vals vs us →
    sp s.heap.objs.size vs H Q E → codeAny (model P w) A (.call (.ref f) args) (CR CX outer P w H s Q E) s
theorem fnS_ok {CX : CXT} {P : Program} {w : World} {K : PySem.W.Frag} {mg : Str → Option Value} {base : Heap} {N ps : List Str} {k : Nat} {f : Addr} {fd : FuncData} {x qual : Str} {params : Arguments} {body : List Stmt} {scope : Scope} {dvs : List V} {kws : List (Str × V)}
    {sp : Nat → Sp} (F : FunD K x qual params body scope dvs kws f fd) (S : FnScope N ps scope) (hlen : ∀ n vs H Q E, sp n vs H Q E → vs.length = ps.length)
    (walk : ∀ (cdv : Value) (A : Around) (outer : List Env) (s : Shared) (H : Hp) (vs : List V) (Q : VK) (E : XK), Room k (A.deeper (envOfC qual scope s.heap.objs.size f cdv)) → sp s.heap.objs.size vs H Q E →
      ∃ t, PSs (cxOf CX P w K mg base N qual scope f cdv A outer s H E) body t ∧ t { nx := fun _ H' => Q .non H', rt := Q } (start N vs) H) : FnS P w K mg base CX (k + 1) f fd ps sp := by
  obtain ⟨oc, od, dV, kV, doc, pm, an, cdv, ct, osl, rfl, look, cod, _, _⟩ := F.ex
  constructor
  · exact hlen
  intro A outer s H args us vs Q E room env bnd rel says
  have inK : K.In s.heap := env.mod.kin.keeps fun b o z => (env.bs b o z).1
  have long := hlen _ _ _ _ _ says
  have kinds : ∀ y ∈ ps.zip us, scope.names.lookup y.1 = some .local ∨ (scope.names.lookup y.1 = some .cell ∧ ((cellsFrom (s.heap.objs.size + 1) scope.names []).lookup y.1).isSome = true) := fun y hy =>
    (S.par y.1 (List.of_mem_zip (a := y.1) (b := y.2) hy).1).imp id fun z => ⟨z, PySem.W.cellsFrom_some _ _ _ (.inl z)⟩
  refine codeAny_call_function room.depth (inK _ _ look) rfl S.co S.gen rfl (PySem.W.codeRec_of inK cod) (bnd _ _ _ _ ?_)
  refine wpAny_newFunctionEnv_cells S.kind kinds fun env' same s1 made => ?_
  cases same
  have nolim : s.heap.NoLimit := env.mod.nolimit.keeps fun b o z => (env.bs b o z).1
  refine ⟨nolim.keeps made.toInCall.keep, codeAny_func ?_⟩
  obtain ⟨t, derived, reads⟩ := walk cdv A outer s H vs Q E (room.deeper _) says
  have J0 : Inv (cxOf CX P w K mg base N qual scope f cdv A outer s H E) [] (start N vs) H s1 := inv_start S room.hd env long rel made
  refine wpAny_mono (derived.run [] s1 (start N vs) H _ J0 reads) (fun fl s2 z => ?_) fun _ _ z => z
  have back : ∀ {τ : L2.St} {G : Hp} {v : V} {u : Value}, Inv (cxOf CX P w K mg base N qual scope f cdv A outer s H E) [] τ G s2 → RelV v u → Q v G → CE outer P w H s Q u s2 :=
    fun {τ G v u} J rv q => ⟨v, G, J.os, J.bare, J.base, J.hok, rv, q⟩
  cases fl with
  | ret u => exact let ⟨v, _, G, J, rv, q⟩ := z; back J rv q
  | next => exact let ⟨_, G, J, q⟩ := z; back (v := V.non) (u := Value.none) J rfl q
  | brk => exact let ⟨_, _, _, q⟩ := z; q.elim
  | cont => exact let ⟨_, _, _, q⟩ := z; q.elim
section
variable {X : Cx} {CX : CXT} {k : Nat} {C f : Addr} {fd : FuncData} {ps : List Str} {E : XK} {pins : List (Addr × Obj)} {σ : L2.St} {H : Hp} {s : Shared}
theorem tit_ok {P : Program} {w : World} {l it : Addr} {h : Heap} (e : h.IsTupleIter it l 0) : ObjOk P w H h it (TIt l it) :=
  ⟨e, let ⟨o, ho, _⟩ := e; ⟨o, ho⟩, fun h1 h2 q kp => let ⟨o, ho, hc, hd⟩ := q; ⟨o, kp o ho, hc, hd⟩⟩
/-- iter(t): a new iterator -/
def rIterT (K : PySem.W.Frag) (n : Nat) : List V → Hp → VK → Prop := fun xs H Q => ∃ (l : Addr) (zs : List V), xs = [.ref l] ∧ SqT K H l zs ∧ ∀ it, H it = none → n ≤ it → Q (.ref it) (upd H it (TIt l it))
theorem call_iterT : CallR X (.builtin "iter") (rIterT X.K X.s_0.heap.objs.size) := by
  intro pins s σ H xs us Q I r h
  obtain ⟨l, zs, rfl, hq, q⟩ := h
  obtain rfl := Vals.ref1 r
  obtain ⟨its, rv, pl, hz⟩ := I.tuple hq
  refine Calls.call_function_entry (by decide +kernel) (by decide +kernel) PySem.W.kdk_entry_iter (PySem.W.kdk_args_iter _) ?_
  unfold Builtin.«iter»
  refine wpAny_bind (m := someArgs "iter" 1 2 _) (wpAny_of_eq (a := [Value.ref l]) (by first | rfl | kernel_rfl!) ?_)
  show wpAny _ _ (pyIter (.ref l) >>= _) _ _ _
  refine wpAny_bind (wpAny_pyIter_tuple (show s.heap.IsTuple l its.toArray from pl) ?_)
  exact wpAny_pure ⟨_, rfl, .ref s.heap.objs.size, _, I.laid (t' := s.toks) (fun b u e => Heap.get?_push_of_some _ e) (Nat.le_refl _) (tit_ok ⟨_, Heap.get?_push_size _ rfl, rfl, rfl⟩), rfl, q _ (I.hok.fresh (Nat.le_refl _)) I.sz⟩
/-- what an __iter__ promises that gives iter of the tuple at l -/
def spIter (C : Addr) (K : PySem.W.Frag) (g : Str) : Nat → Sp := fun n vs H Q _ => ∃ (p dx l : Addr) (fs : List (Str × V)) (zs : List V), vs = [.ref p] ∧ H p = some (.ins C dx fs) ∧ fs.lookup g = some (.ref l) ∧ SqT K H l zs ∧ ∀ it, H it = none → n ≤ it → Q (.ref it) (upd H it (TIt l it))
theorem next_tit {P : Program} {w : World} {A : Around} {E : Value → Shared → Prop} {l it : Addr} {Q : Value → Shared → Prop} (e : s.heap.IsTupleIter it l 0) (h : Q (.ref it) s) : PySem.W.OwitIt (model P w) A Q E (.ref it) s := by
  unfold PySem.W.OwitIt
  exact wpAny_specialOf e.typeIs PySem.F.slot_tuple_iterator_next.lookup h
/-- for x in o: o an object whose __iter__ gives iter(o.g), a tuple -/
def iOwn (K : PySem.W.Frag) (C : Addr) (g : Str) (te : TE) : TI := fun σ H R => te σ H fun x H1 => ∃ (p dx l : Addr) (fs : List (Str × V)) (zs : List V), x = .ref p ∧ H1 p = some (.ins C dx fs) ∧ fs.lookup g = some (.ref l) ∧ SqT K H1 l zs ∧ R (Itt K l) H1
theorem pi_own {tg e : Expr} {te : TE} {g : Str} (m : Meth X.K C "__iter__" f) (F : FnS X.prog X.w X.K X.mg X.base CX k f fd ps (spIter C X.K g)) (hr : Room k X.A) (hb : Binds X.K fd ps []) (hx : Passes CX X E) (he : PE X e te) : PI X tg e (iOwn X.K C g te) := by
  refine ⟨fun pins s σ H R I h => thn (he.run pins s σ H _ I h) fun v s1 ⟨x, H1, I1, r1, q1⟩ => ?_⟩
  obtain ⟨p, dx, l, fs, zs, rfl, ep, lk, hq, q⟩ := q1
  cases r1
  obtain ⟨od, J⟩ := inst_at I1 ep
  obtain ⟨m0, hF⟩ := I1.fr
  refine PySem.W.owit_iter hF I1.ok.mod.kin J m.at_ m.fn ?_
  have says : spIter C X.K g s1.heap.objs.size [.ref p] H1 (fun v H2 => ∃ it, v = .ref it ∧ H1 it = none ∧ s1.heap.objs.size ≤ it ∧ H2 = upd H1 it (TIt l it)) E := ⟨p, dx, l, fs, zs, rfl, ep, lk, hq, fun it hn hs => ⟨it, rfl, hn, hs, rfl⟩⟩
  have hl : ([Value.ref p] ++ []).length = ps.length := by
    have := F.many _ _ _ _ _ says
    simpa using this
  have hbs := hb s1 [.ref p] I1.kIn hl
  rw [List.append_nil] at hbs
  refine wpAny_call (codeAny_mono (F.goes X.A X.stack s1 H1 ⟨[.ref p], []⟩ [.ref p] [.ref p] _ E hr I1.env0 hbs (.cons rfl .nil) says) fun r s2 z => ?_)
  cases r with
  | error e => exact hx pins σ H1 s1 e s2 I1 z
  | ok fl =>
    cases fl with
    | ret u =>
      obtain ⟨v, H2, I2, rv, it, rfl, hn, hs, rfl⟩ := I1.after z
      cases rv
      have tit : s2.heap.IsTupleIter it l 0 := (I2.hok it _ upd_same).1
      have I3 := ItX.inv_drop I2 upd_same
      rw [ItX.dropH_upd hn] at I3
      refine next_tit tit ⟨it, [it], _, _, H1, rfl, I3, turn_tuple l it, tit, fun b hb => ?_, q⟩
      cases List.mem_singleton.mp hb
      exact I1.fpOk hs hn
    | next => exact False.elim z
    | brk => exact False.elim z
    | cont => exact False.elim z
end
end TK
/-! Own toolkit, part f: own exceptions without fields; exceptions whose __init__ is super().__init__(x) over an own one. -/
namespace TK
open PySem PySem.Spec PyProof.Rows L2 NdefX
/-- what super() of the class at D finds above, for an exception of the class at C: the def at g -/
structure SupU (K : PySem.W.Frag) (C D g : Addr) : Prop where
  mro : PySem.W.mroIn K C (.ref D) = some true
  above : PySem.W.ks_superIn K C D "__init__" = some (some (.ref g))
  ty : PySem.W.typeIn K (.ref g) = some (.type "function")
  fi : PySem.W.fnIn K g = true
  opq : PySem.W.nsIn K PySem.cStatics "thirdparty.any" = some none
section
variable {X : Cx} {CX : CXT} {pins : List (Addr × Obj)} {σ : L2.St} {H : Hp} {s : Shared} {a C D cc f g : Addr} {F : NF} {fd gd : FuncData} {k : Nat} {ps : List Str} {sp : Sp} {E : XK}
/-- super().__init__(e, ..), where an own __init__ is found -/
theorem sup_up {p0 p1 p2 p3 p4 : Pos} {e : Expr} {es : List Expr} {ta : TA} {D' : Ends} {pl : Sem Bool} (S : SupF X.prog X.K X.mg f fd F D cc) (V : SupU X.K C D g)
    (G : FnOk X.prog X.w X.K X.mg X.base CX k g gd ps sp) (hr : Room k X.A) (hb : Binds X.K gd ps []) (hx : Passes CX X E)
    (he : X.env = envF F f X.env.locals) (hN : X.N[0]? = some ("self" : Str)) (hks : F.scope.names.lookup ("super" : Str) = some .globalImplicit) (hkc : F.scope.names.lookup ("__class__" : Str) = some .free) (hsl : F.scope.names.lookup ("self" : Str) = some .local)
    (hh : (F.params.posonlyargs ++ F.params.args).head?.map (·.arg) = some ("self" : Str))
    (I : Inv X pins σ H s) (h0 : σ[0]? = some (some (.ref a))) (ha : H a = some (exo a C none)) (hp : PA X (e :: es) ta)
    (h : ta σ H fun vs H1 => sp (.ref a :: vs) H1 (fun _ H2 => D'.nx σ H2) E)
    (hc : eval (.Call (.Attribute (.Call (.Name "super" p0) [] [] p1) "__init__" p2) (e :: es) [] p3) X.env = (do
      let ov ← attributeBase (.Call (.Name "super" p0) [] [] p1) "__init__" X.env (eval (.Call (.Name "super" p0) [] [] p1) X.env)
      standAt p2.atName
      let (f, first) ← holding [ov] (getMethod ov "__init__" pl)
      callWith p3 f first (backTo p3 (starEach (e :: es) X.env)) []) := by rfl)
    (hs : starEach (e :: es) X.env = (false, eval e X.env) :: starEach es X.env := by rfl) (hpl : (backTo p3 (starEach es X.env)).any (·.1) = false := by rfl) (hsw : swapsWith (.Call (.Attribute (.Call (.Name "super" p0) [] [] p1) "__init__" p2) (e :: es) [] p3) none p4.line X.env = pure false := by rfl) :
    _root_.PySem.wpAt (model X.prog X.w) X.A (.func F.body X.env) (exec (.Expr (.Call (.Attribute (.Call (.Name "super" p0) [] [] p1) "__init__" p2) (e :: es) [] p3) p4) X.env) (SP X pins D') X.xe s := by
  obtain ⟨oc, od, osl, doc, pm, ctv, rfl, lk⟩ := S.fn
  obtain ⟨ccl, cdd, cvs, ccs, file, tf, lc, hvs, hfile⟩ := S.file
  obtain ⟨cl, cld, csl, lcell⟩ := S.cell
  obtain ⟨cdD, hD⟩ := S.clsD
  have XK := I.kIn
  obtain ⟨oD, hD1, hD2⟩ : ∃ oD, s.heap.get? D = some oD ∧ oD.data = .cls cdD := by
    unfold PySem.W.clsIn at hD
    split at hD
    · rename_i c d cd' sl ho
      cases hD
      exact ⟨_, XK _ _ ho, rfl⟩
    · cases hD
  obtain ⟨t1, ha1⟩ := exo_at I.hok ha
  obtain ⟨m, hns, hl⟩ := I.loc
  obtain ⟨u, ru, lu⟩ := hl 0 ("self" : Str) _ hN h0 (.inl (by rw [he]; exact hsl))
  obtain rfl : u = Value.ref a := ru
  have hk : X.env.scope.kind = .function := I.ok.kind
  have hm : m ("self" : Str) = some (.ref a) := by
    rcases lu with ⟨_, hm⟩ | ⟨hk2, _⟩
    · exact hm
    · have e1 : X.env.kindOf ("self" : Str) = some .local := by rw [he]; exact hsl
      rw [e1] at hk2
      rcases hk2 with z | z <;> cases z
  obtain ⟨ar, har, harg⟩ := Option.map_eq_some_iff.mp hh
  have hfu : X.env.func = some f := by rw [he]
  have hco : X.env.code = .ref F.c := by rw [he]
  have k1 : X.env.kindOf ("super" : Str) = some .globalImplicit := by rw [he]; exact hks
  have k2 : X.env.kindOf ("__class__" : Str) = some .free := by rw [he]; exact hkc
  have k3 : X.env.kindOf ("self" : Str) = some .local := by rw [he]; exact hsl
  have k4 : X.env.cells.lookup ("__class__" : Str) = some cc := by rw [he]; show F.cl.lookup _ = _; rw [S.cl]; rfl
  obtain ⟨mb, hb1, hb2⟩ := I.mod.blt
  have lf := XK _ _ lk
  have lcd := XK _ _ lc
  have lcc := XK _ _ lcell
  obtain ⟨hh', gg, d, tk, os⟩ := s
  refine ks_wpAt_Expr_any ?_ I.quiet hsw
  refine ks_wpAt_MethodCall ?_ hc
  refine ks_wpAt_super_base (env := X.env) k1 k2 rfl hfu lf rfl har hco lcd rfl hvs hfile S.top ?_
  refine PySem.W.ks_loadName_global hk k1 (Calls.loadGlobal_builtin (env := X.env) (by rw [I.ok.glob]; exact I.mod.glob.keeps I.bk) S.sup (by rw [I.ok.blt]; exact hb1.keeps I.bk) ((hb2 _ (by decide +kernel)).trans (by decide +kernel : bootBuiltins "super" = some (.type "super"))) ⟨rfl, ?_⟩)
  refine wpAny_loadName_free hk k2 k4 ⟨_, lcc, rfl⟩ ?_
  rw [harg]
  refine wpAny_loadName_local hk k3 hns hm ?_
  refine ks_wpAny_isType_cls hD1 hD2 ⟨rfl, ?_⟩
  refine ks_wpAny_call_super hD1 hD2 ha1 rfl (fun c e => by cases e) (PySem.W.looks_mroIn XK V.mro) (fun h1 eso kso => ?_)
  have I1 : Inv X pins σ H ⟨h1, gg, d, tk, os⟩ := I.kept (t' := tk) kso
  cases hcd : PySem.W.clsIn X.K C with
  | none =>
    have z := V.above
    unfold PySem.W.ks_superIn at z
    rw [hcd] at z
    cases z
  | some cd =>
    have z := V.above
    unfold PySem.W.ks_superIn at z
    rw [hcd] at z
    have XK1 := I1.kIn
    have ia : (⟨h1, gg, d, tk, os⟩ : Shared).heap.get? a = some (PySem.W.excObj C t1 none .none) := kso _ _ ha1
    obtain ⟨ofn, hof, hofc⟩ : ∃ o, h1.get? g = some o ∧ o.cls = .type "function" := by
      have ht : (X.K.lookup g).map (·.cls) = some (.type "function") := V.ty
      cases q : X.K.lookup g with
      | none => rw [q] at ht; cases ht
      | some o => rw [q] at ht; exact ⟨o, XK1 _ _ q, Option.some.inj ht⟩
    refine ks_wpAny_getMethod_super eso (PySem.W.looks_opaque XK1 V.opq) (l₀ := cd.mro) (fun A Q E s k q => wpAny_bind ((PySem.W.looks_clsIn XK1 hcd) A _ E s k (wpAny_pure q))) rfl XK1 z hof hofc
      (PySem.W.ks_ne XK1 (show PySem.W.InstAt h1 a (PySem.W.excObj C t1 none .none) C none from ⟨ia, rfl, rfl, trivial⟩) hcd) rfl ?_
    have kq : ∀ b o, h1.get? b = some o → (h1.push (PySem.W.methodObj (.ref g) (.ref a))).get? b = some o := fun b o e => Heap.get?_push_of_some _ e
    have gq : (h1.push (PySem.W.methodObj (.ref g) (.ref a))).get? h1.objs.size = some (PySem.W.methodObj (.ref g) (.ref a)) := Heap.get?_push_at rfl rfl
    have nq : H h1.objs.size = none := I1.hok.fresh (Nat.le_refl _)
    have I2 : Inv X pins σ H ⟨h1.push (PySem.W.methodObj (.ref g) (.ref a)), gg, d, tk + 1, os⟩ := I1.kept (t' := tk + 1) kq
    have I3 : Inv X ((h1.objs.size, PySem.W.methodObj (.ref g) (.ref a)) :: pins) σ H ⟨h1.push (PySem.W.methodObj (.ref g) (.ref a)), gg, d, tk + 1, os⟩ := I2.pins_of fun p hp => by
      rcases List.mem_cons.mp hp with rfl | z
      · exact ⟨gq, nq, Nat.ne_of_gt I1.lt, I1.nofs (Nat.le_refl _), fun v e => by cases e⟩
      · exact I2.pin p (List.mem_append_right _ z)
    refine PySem.W.callWith_M (h₀ := X.base) (L := X.env.locals) (first := []) (news := [(h1.objs.size, PySem.W.methodObj (.ref g) (.ref a))]) I1.ok.mod.kin (fun p hp => ?_) List.mem_cons_self V.fi (thn (hp.run p3 _ _ σ H _ I3 h) fun us s2 q => ?_) hs hpl
    · obtain rfl : p = (h1.objs.size, PySem.W.methodObj (.ref g) (.ref a)) := List.mem_singleton.mp hp
      exact ⟨gq, Nat.ne_of_gt I1.lt, Heap.get?_none_of_le (Nat.le_trans I.ok.bsz I1.sz)⟩
    · obtain ⟨vs, H1, I4, rv, q1⟩ := q
      have hq := (I4.pin (h1.objs.size, PySem.W.methodObj (.ref g) (.ref a)) (List.mem_append_right _ List.mem_cons_self)).1
      have I5 : Inv X pins σ H1 s2 := I4.pins_of fun p hp => I4.pin p (List.mem_append_right _ (List.mem_cons_of_mem _ hp))
      refine ⟨⟨hq, I4.kIn⟩, wpAny_call (ks_codeAny_call_bound hq ?_)⟩
      have rv1 : Vals (.ref a :: vs) (Value.ref a :: us) := .cons (vref _) rv
      have hl1 : ((Value.ref a :: us) ++ []).length = ps.length := by rw [List.append_nil, ← rv1.length]; exact G.len _ _ _ _ q1
      have hbs := hb s2 (Value.ref a :: us) I5.kIn hl1
      rw [List.append_nil] at hbs
      refine codeAny_mono (G.run X.A X.stack s2 H1 ⟨Value.ref a :: us, []⟩ (Value.ref a :: us) (.ref a :: vs) _ E hr I5.env0 hbs rv1 q1) fun r s3 hq => ?_
      cases r with
      | error e => exact hx pins σ H1 s2 e s3 I5 hq
      | ok fl =>
        cases fl with
        | ret u =>
          obtain ⟨v, H2, I6, _, q2⟩ := I5.after hq
          exact ⟨σ, H2, I6, q2⟩
        | next => exact False.elim hq
        | brk => exact False.elim hq
        | cont => exact False.elim hq
end
section
variable {CX : CXT} {P : Program} {w : World} {K : PySem.W.Frag} {mg : Str → Option Value} {base : Heap} {F : NF} {fd gd : FuncData} {f g D D2 cc : Addr} {k : Nat} {p0 p1 p2 p3 p4 r0 : Pos} {f1 : Str} {fs qs : List Str}
/-- the promise of such an __init__: that of the one above -/
def spU (K : PySem.W.Frag) (D g D2 : Addr) (fs : List Str) : Sp := fun vs H Q E => ∃ (a C : Addr) (xs : List V), vs = .ref a :: xs ∧ xs.length = fs.length ∧ H a = some (exo a C none) ∧ SupU K C D g ∧ spI K D2 fs vs H Q E
/-- def __init__(self, x): super().__init__(x) -/
theorem fn_initU (S : SupF P K mg f fd F D cc) (hS : NScope ["self", f1, "__class__"] ["self", f1] ["__class__"] F.scope)
    (hbd : F.body = [.Expr (.Call (.Attribute (.Call (.Name "super" p0) [] [] p1) "__init__" p2) [.Name f1 r0] [] p3) p4])
    (hks : F.scope.names.lookup ("super" : Str) = some .globalImplicit) (hh : (F.params.posonlyargs ++ F.params.args).head?.map (·.arg) = some ("self" : Str))
    (hd1 : (f1 == ("__debug__" : Str)) = false) (hc1 : (f1 == ("__classdict__" : Str)) = false)
    (G : FnOk P w K mg base CX k g gd qs (spI K D2 [f1])) (hb : Binds K gd qs [])
    (hx : ∀ (A : Around) (outer : List Env) (s : Shared) (H : Hp) (E : XK), Passes CX (ncx CX P w K mg base ["self", f1, "__class__"] F f A outer s H E) (fun _ _ _ => False))
    (hc : ∀ env : Env, ∃ pl, eval (.Call (.Attribute (.Call (.Name "super" p0) [] [] p1) "__init__" p2) [.Name f1 r0] [] p3) env = (do
      let ov ← attributeBase (.Call (.Name "super" p0) [] [] p1) "__init__" env (eval (.Call (.Name "super" p0) [] [] p1) env)
      standAt p2.atName
      let (f, first) ← holding [ov] (getMethod ov "__init__" pl)
      callWith p3 f first (backTo p3 (starEach [.Name f1 r0] env)) []) := by exact fun env => ⟨_, rfl⟩)
    (hs : ∀ env : Env, starEach [.Name f1 r0] env = (false, eval (.Name f1 r0) env) :: starEach [] env := by exact fun env => rfl) (hpl : ∀ env : Env, (backTo p3 (starEach [] env)).any (·.1) = false := by exact fun env => rfl)
    (hsw : ∀ env : Env, swapsWith (.Call (.Attribute (.Call (.Name "super" p0) [] [] p1) "__init__" p2) [.Name f1 r0] [] p3) none p4.line env = pure false := by exact fun env => rfl) :
    FnOk P w K mg base CX (k + 1) f fd ["self", f1] (spU K D g D2 [f1]) := by
  have hsl := hS.par "self" (by simp)
  have hfl := hS.par f1 (by simp)
  refine ⟨fun vs H Q E h => ?_, fun A outer s H args us vs Q E hr e0 hbi r hsp => ?_⟩
  · obtain ⟨a, C, xs, rfl, hl, _⟩ := h
    simp [hl]
  obtain ⟨a, C, xs, rfl, hl, ha, hV, hI⟩ := hsp
  obtain ⟨x, rfl⟩ : ∃ x, xs = [x] := by
    match xs, hl with
    | [x], _ => exact ⟨x, rfl⟩
  obtain ⟨oc, od, osl, doc, pm, ctv, rfl, lk⟩ := id S.fn
  obtain ⟨cl, cld, csl, lcell⟩ := S.cell
  have hK : K.In s.heap := fun b o q => (e0.bs b o (e0.mod.kin b o q)).1
  have lim : s.heap.NoLimit := e0.mod.nolimit.keeps fun b o e => (e0.bs b o e).1
  have ccat := e0.bs _ _ (e0.mod.kin _ _ lcell)
  have C1 : CellsAt F.cl ["__class__"] [(none : Option V)] s.heap H := by
    refine ⟨rfl, fun y c z => ?_, fun x y c z1 z2 => ?_, fun i y z => ?_⟩
    · rw [S.cl] at z
      obtain ⟨rfl, rfl⟩ := look1 z
      exact ⟨ccat.2, _, _, ccat.1, rfl⟩
    · rw [S.cl] at z1 z2
      exact (look1 z1).1.trans (look1 z2).1.symm
    · match i, z with
      | 0, z =>
        cases z
        refine ⟨cc, by rw [S.cl]; rfl, fun v z => ?_⟩
        cases z
      | i + 1, z => simp at z
  refine ks_codeAny_call_defAt (fd := F.fd doc pm ctv) hr.depth (hK _ _ lk) rfl lim (PySem.W.codeRec_of hK S.code) rfl hbi hS.nocell (fun x hx => hS.par _ (List.of_mem_zip hx).1) (fun h₁ hns kp => ?_) hS.co hS.gen hS.kind
  have I : Inv (ncx CX P w K mg base ["self", f1, "__class__"] F f A outer s H E) [] (startF ["self", f1, "__class__"] [.ref a, x] [none]) H { s with heap := h₁, toks := s.toks + ((["self", f1] : List Str).zip us).length } := inv_startN hS hr.hd e0 rfl r C1 hns kp
  have fin : ∀ {σ' : L2.St} {H' : Hp} {v : V} {u : Value} {s' : Shared}, Inv (ncx CX P w K mg base ["self", f1, "__class__"] F f A outer s H E) [] σ' H' s' → L2.RelV v u → Q v H' → CE outer P w H s Q u s' :=
    fun {σ' H' v u s'} J rv q => ⟨v, H', J.os, J.bare, J.base, J.hok, rv, q⟩
  obtain ⟨pl, hc'⟩ := hc (envF F f s.heap.objs.size)
  have go : _root_.PySem.wpAt (model P w) (A.deeper (envF F f s.heap.objs.size)) (.func F.body (envF F f s.heap.objs.size)) (execs F.body (envF F f s.heap.objs.size)) (SP (ncx CX P w K mg base ["self", f1, "__class__"] F f A outer s H E) [] { nx := fun _ H' => Q .non H', rt := Q })
      (ncx CX P w K mg base ["self", f1, "__class__"] F f A outer s H E).xe { s with heap := h₁, toks := s.toks + ((["self", f1] : List Str).zip us).length } := by
    rw [show execs F.body (envF F f s.heap.objs.size) = execs [.Expr (.Call (.Attribute (.Call (.Name "super" p0) [] [] p1) "__init__" p2) [.Name f1 r0] [] p3) p4] (envF F f s.heap.objs.size) by rw [hbd]]
    refine ks_wpAt_execs_cons (ks_wpAt_mono (sup_up (X := ncx CX P w K mg base ["self", f1, "__class__"] F f A outer s H E) (D' := { nx := fun _ H' => Q .non H', rt := Q }) (pl := pl) S hV G (hr.deeper _) hb (hx A outer s H E) rfl rfl hks (hS.frk "__class__" (by simp)) hsl hh I rfl ha
      (pa_cons (pe_var (i := 1) rfl (.inl hfl) hd1 hc1) pa_nil) ⟨x, rfl, ?_⟩ hc' (hs _) (hpl _) (hsw _)) (fun fl s' hq => ?_) fun _ _ z => z)
    · obtain ⟨a', C', xs', e1, h1, h2, h3, h4, h5⟩ := hI
      exact ⟨a', C', xs', e1, h1, h2, h3, h4, h5⟩
    · cases fl with
      | next =>
        obtain ⟨σ', H', J, q'⟩ := hq
        exact wpAt_of_wpAny (pss_nil.run [] _ σ' H' { nx := fun _ H' => Q .non H', rt := Q } J q')
      | ret u => exact hq
      | brk =>
        obtain ⟨_, _, _, z⟩ := hq
        exact z.elim
      | cont =>
        obtain ⟨_, _, _, z⟩ := hq
        exact z.elim
  refine ks_wpAt_mono go (fun fl s' hq => ?_) fun _ _ z => z
  cases fl with
  | next =>
    obtain ⟨σ', H', J, q⟩ := hq
    exact fin (v := V.non) (u := Value.none) J rfl q
  | ret u =>
    obtain ⟨v, σ', H', J, rv, q⟩ := hq
    exact fin J rv q
  | brk =>
    obtain ⟨_, _, _, z⟩ := hq
    exact z.elim
  | cont =>
    obtain ⟨_, _, _, z⟩ := hq
    exact z.elim
end
section
variable {X : Cx} {CX : CXT} {x : Str} {C fI D2 : Addr} {k : Nat} {fd : FuncData} {ps fs : List Str} {e : Expr} {es : List Expr} {ta : TA} {p pos : Pos} {sp : Sp}
/-- C(e, ..), its __init__ of a promise that follows from spI of the class above -/
theorem pmk_by (Vx : SupV X.K C D2) (iC : PySem.W.findIn X.K (.ref C) "__init__" = some (some (.ref fI))) (tI : PySem.W.typeIn X.K (.ref fI) = some (.type "function")) (hn : ∀ f ∈ fs, PySem.W.findIn X.K (.ref C) f = some none)
    (F1 : FnOk X.prog X.w X.K X.mg X.base CX k fI fd ps sp) (conv : ∀ (a : Addr) (xs : List V) (H : Hp) (Q : VK) (E : XK), H a = some (exo a C none) → xs.length = fs.length → spI X.K D2 fs (.ref a :: xs) H Q E → sp (.ref a :: xs) H Q E)
    (hr : Room (k + 1) X.A) (hb : Binds X.K fd ps []) (hx : Passes CX X (fun _ _ _ => False)) (hg : Gl X x) (hm : X.mg x = some (.ref C)) (ha : PA X (e :: es) ta)
    (hdb : (x == ("__debug__" : Str)) = false := by decide) (he : starEach (e :: es) X.env = (false, eval e X.env) :: starEach es X.env := by rfl) (hpl : (backTo pos (starEach es X.env)).any (·.1) = false := by rfl) :
    PMk X (.Call (.Name x p) (e :: es) [] pos) (fun σ H Q => ta σ H fun vs H1 => vs.length = fs.length ∧ vs.length ≤ 1000 ∧ ∀ d, H1 d = none → Q (.ref C) (some d) (upd H1 d (.xd (fs.zip vs).reverse))) := by
  intro pins s σ H Q I h
  have ha' : PA X (e :: es) (fun σ' H' R => σ' = σ ∧ H' = H ∧ ∀ vs H1, (vs.length = fs.length ∧ vs.length ≤ 1000 ∧ ∀ d, H1 d = none → Q (.ref C) (some d) (upd H1 d (.xd (fs.zip vs).reverse))) → R vs H1) :=
    ⟨fun pos pins s σ' H' R I' z => by
      obtain ⟨rfl, rfl, imp⟩ := z
      exact thn (ha.run pos pins s _ _ _ I' h) fun us s1 ⟨vs, H1, I1, r1, q1⟩ => ⟨vs, H1, I1, r1, imp _ _ q1⟩⟩
  refine pmk_oex (dvs := []) Vx.ox iC tI F1 hr hb .nil hx hg hm ha' hdb he hpl pins s σ H Q I ⟨rfl, rfl, fun vs H1 ⟨hl, hz, q⟩ => ⟨hz, fun a hna => ?_⟩⟩
  rw [List.append_nil]
  refine conv a vs _ _ _ upd_same hl ⟨a, C, vs, rfl, hl, upd_same, Vx, hn, fun d hd ne => ?_⟩
  have hd1 : H1 d = none := by rw [upd_ne ne] at hd; exact hd
  refine ⟨rfl, d, (fs.zip vs).reverse, by rw [upd_ne (Ne.symm ne), upd_same], upd_same, hd1, ?_⟩
  have e : upd (del (upd (upd (upd H1 a (exo a C none)) a (exo a C (some d))) d (exd d (fs.zip vs).reverse)) a) d (.xd (fs.zip vs).reverse) = upd H1 d (.xd (fs.zip vs).reverse) := by
    funext b
    by_cases h1 : b = d
    · subst h1
      rw [upd_same, upd_same]
    · rw [upd_ne h1, upd_ne h1]
      by_cases h2 : b = a
      · subst h2
        rw [del_same, hna]
      · rw [del_ne h2, upd_ne h1, upd_ne h2, upd_ne h2]
  rw [e]
  exact q d hd1
end
end TK
namespace TK
open PySem PySem.Spec PyProof.Rows L2 NdefX
/-! ### no fields -/
def spN0 (K : PySem.W.Frag) (D : Addr) : Sp := fun vs H Q _ => ∃ a C, vs = [.ref a] ∧ H a = some (exo a C none) ∧ SupV K C D ∧ Q .non H
section
variable {CX : CXT} {P : Program} {w : World} {K : PySem.W.Frag} {mg : Str → Option Value} {base : Heap} {F : NF} {fd : FuncData} {f D cc : Addr} {k : Nat} {p0 p1 p2 p3 p4 r0 : Pos} {msg : Str} {j : Nat}
/-- def __init__(self): super().__init__('text') -/
theorem fn_init0 (S : SupF P K mg f fd F D cc) (hS : NScope ["self", "__class__"] ["self"] ["__class__"] F.scope)
    (hbd : F.body = [.Expr (.Call (.Attribute (.Call (.Name "super" p0) [] [] p1) "__init__" p2) [.Constant (.str msg) j r0] [] p3) p4])
    (hks : F.scope.names.lookup ("super" : Str) = some .globalImplicit) (hh : (F.params.posonlyargs ++ F.params.args).head?.map (·.arg) = some ("self" : Str))
    (hc : ∀ env : Env, ∃ pl, eval (.Call (.Attribute (.Call (.Name "super" p0) [] [] p1) "__init__" p2) [.Constant (.str msg) j r0] [] p3) env = (do
      let ov ← attributeBase (.Call (.Name "super" p0) [] [] p1) "__init__" env (eval (.Call (.Name "super" p0) [] [] p1) env)
      standAt p2.atName
      let (f, first) ← holding [ov] (getMethod ov "__init__" pl)
      callWith p3 f first (backTo p3 (starEach [.Constant (.str msg) j r0] env)) []) := by exact fun env => ⟨_, rfl⟩) :
    FnOk P w K mg base CX (k + 1) f fd ["self"] (spN0 K D) := by
  refine fn_super S hS hbd rfl hks (hS.frk "__class__" (by simp)) (hS.par "self" (by simp)) hh (fun vs H Q E h => ?_) (fun A outer s H vs Q E hr h => ?_) hc
  · obtain ⟨a, C, rfl, _⟩ := h
    rfl
  · obtain ⟨a, C, rfl, ha, hV, q⟩ := h
    exact ⟨a, C, [], _, _, rfl, hV, ha, pa_cons pe_str pa_nil, pss_nil, by simp, ha, q⟩
end
section
variable {X : Cx} {CX : CXT} {x : Str} {C g : Addr} {k : Nat} {fd : FuncData} {ps : List Str} {p pos : Pos} {pins : List (Addr × Obj)} {σ : L2.St}
/-- an exception without a dict is let go -/
theorem end0 {H H2 : Hp} {h hm h2 : Heap} {g1 g2 : Array GenState} {d1 d2 : Drawn} {t1 t2 : Nat} {o1 o2 : OsState} {a : Addr} (I : Inv X pins σ H ⟨h, g1, d1, t1, o1⟩) (young : h.objs.size ≤ a) (grown : ∀ b o, h.get? b = some o → hm.get? b = some o)
    (U : Un (frs X.stack) [] (upd H a (exo a C none)) H2 hm h2) (ok : HOk X.prog X.w H2 h2) (same : o2 = o1) (bare : AllBare g2) (at_ : H2 a = some (exo a C none)) (R : Raises X (.ref C)) {Q : XK} (q : Q (.ref C) none (del H2 a)) :
    MkP X pins σ Q (.ref a) ⟨h2, g2, d2, t2, o2⟩ := by
  obtain ⟨t0, obj⟩ := exo_at ok at_
  have none_a : H a = none := I.hok.fresh young
  obtain ⟨G, inside, outside⟩ := restrict h2 fun b => decide (b ≠ a)
  have like : ∀ {b}, b ≠ a → G.get? b = h2.get? b := fun {b} nb => inside b (decide_eq_true nb)
  have gone : G.get? a = none := outside a (by simp)
  have old : ∀ {b o}, h.get? b = some o → b ≠ a := fun {b o} z => Nat.ne_of_lt (Nat.lt_of_lt_of_le (Heap.lt_size z) young)
  have un0 : ∀ {b}, b ≠ a → H b = none → upd H a (exo a C none) b = none := fun {b} nb n => (upd_ne nb).trans n
  have W : Un (frs X.stack) [] H (del H2 a) h G := by
    refine ⟨fun b o z n hf hx => (like (old z)).trans (U.keep b o (grown b o z) (un0 (old z) n) hf hx), fun b o z n hf hx => ?_, fun b o z n hx => (del_ne (old z)).trans (U.free b o (grown b o z) (un0 (old z) n) hx), fun b o z hx => ?_,
      fun b xs z => ?_, fun b o v z => ?_, fun b ps z => ?_⟩
    · obtain ⟨sl, e⟩ := U.slot b o (grown b o z) (un0 (old z) n) hf hx
      exact ⟨sl, (like (old z)).trans e⟩
    · obtain ⟨o', e⟩ := U.there b o (grown b o z) hx
      exact ⟨o', (like (old z)).trans e⟩
    · have nb := ne_of_none z none_a
      exact (del_ne nb).trans (U.tups b xs ((upd_ne nb).trans z))
    · have nb := ne_of_none z none_a
      exact (del_ne nb).trans (U.frzs b o v ((upd_ne nb).trans z))
    · have nb := ne_of_none z none_a
      obtain ⟨m, e⟩ := U.tbls b ps ((upd_ne nb).trans z)
      exact ⟨m, (del_ne nb).trans e⟩
  have okG : HOk X.prog X.w (del H2 a) G := fun b o z => by
    have nb : b ≠ a := fun e => by
      rw [e, del_same] at z
      cases z
    rw [del_ne nb] at z
    have away : ∀ {c : Addr}, H2 c = some (.own b) → c ≠ a := fun {c} hc => at_ne at_ hc exo_own
    exact (ok b o z).stay (fun c v hc y => (like (hc.elim (fun e => e ▸ nb) away)).trans y) (fun c hc => (del_ne (away hc)).trans hc) fun c xs hc => (del_ne (at_ne at_ hc exo_tup)).trans hc
  have J : Inv X pins σ (del H2 a) ⟨G, g2, d2, t2, o2⟩ := I.call' (ch := []) same W okG bare fun b z => absurd z (by simp)
  have sub : ∀ b o, G.get? b = some o → h2.get? b = some o := fun b o z => by
    have nb : b ≠ a := fun e => by
      rw [e, gone] at z
      cases z
    exact (like nb).symm.trans z
  exact ⟨a, _, _, ⟨G, g2, d2, t2, o2⟩, _, .ref C, none, rfl, J, sub, gone, obj, ⟨rfl, rfl⟩, rfl, rfl, del_same, rfl, bare, R, q⟩
/-- C(), of such a class -/
theorem pmk_none (Vx : SupV X.K C C) (iC : PySem.W.findIn X.K (.ref C) "__init__" = some (some (.ref g))) (tI : PySem.W.typeIn X.K (.ref g) = some (.type "function"))
    (G : FnOk X.prog X.w X.K X.mg X.base CX k g fd ps (spN0 X.K C)) (hr : Room (k + 1) X.A) (hb : Binds X.K fd ps []) (hx : Passes CX X (fun _ _ _ => False)) (hg : Gl X x) (hm : X.mg x = some (.ref C)) (hdb : (x == ("__debug__" : Str)) = false := by decide) :
    PMk X (.Call (.Name x p) [] [] pos) (fun _ H Q => Q (.ref C) none H) := by
  intro pins s σ H Q I q
  obtain ⟨nm, qn, N, bs, bm, sn, sub, ab, col, dd, k0, k1, k2, k3, k5, hC, hbm⟩ := Vx.ox.cls
  refine wpAny_Call_Name_kw (ld_glob I hg hm ?_ hdb)
  refine PySem.W.callWith_K0 I.kIn Vx.ox.kC ?_
  show wpAny _ _ (call (.ref C) []) _ _ _
  obtain ⟨h, g1, d1, t1, o1⟩ := s
  have young : h.objs.size ≤ h.objs.size + 1 := Nat.le_succ _
  have grown : ∀ b o, h.get? b = some o → ((h.push (PySem.W.kdv_tup [])).push (PySem.HandSPX.excO C h.objs.size)).get? b = some o := fun b o e => Heap.get?_push_of_some _ (Heap.get?_push_of_some _ e)
  have obj : ((h.push (PySem.W.kdv_tup [])).push (PySem.HandSPX.excO C h.objs.size)).get? (h.objs.size + 1) = some (PySem.HandSPX.excO C h.objs.size) := by heap_get
  have I2 : Inv X pins σ (upd H (h.objs.size + 1) (exo (h.objs.size + 1) C none)) ⟨(h.push (PySem.W.kdv_tup [])).push (PySem.HandSPX.excO C h.objs.size), g1, d1, t1, o1⟩ := I.laid (t' := t1) grown young (exo_ok obj)
  have says : spN0 X.K C [.ref (h.objs.size + 1)] (upd H (h.objs.size + 1) (exo (h.objs.size + 1) C none)) (fun v H2 => v = .non ∧ H2 = upd H (h.objs.size + 1) (exo (h.objs.size + 1) C none)) (fun _ _ _ => False) := ⟨_, C, rfl, upd_same, Vx, rfl, rfl⟩
  have rv : Vals [V.ref (h.objs.size + 1)] [Value.ref (h.objs.size + 1)] := .cons rfl .nil
  have hl : ([Value.ref (h.objs.size + 1)] ++ []).length = ps.length := (G.len _ _ _ _ says)
  have hbs := hb _ [Value.ref (h.objs.size + 1)] I2.kIn hl
  refine wpAny_call (PySem.HandSPX.call_own F.excBase_ValueError (fun Y => PySem.HandSPX.refsVE_contains Y bm hbm) (I.kIn _ _ hC) (PySem.W.looks_findIn I.kIn iC) (fun self => PySem.W.bind_fn I.kIn self tI) (Nat.zero_le _)
    (codeAny_mono (G.run _ X.stack _ _ ⟨[Value.ref (h.objs.size + 1)], []⟩ [Value.ref (h.objs.size + 1)] _ _ (fun _ _ _ => False) (hr.make C [] []) (I2.env0.make C [] []) hbs rv says) fun r s' z => ?_))
  cases r with
  | error er => exact hx pins σ _ _ er s' I2 z
  | ok fl =>
    cases fl with
    | ret u =>
      obtain ⟨v, H2, os2, bare2, un2, ok2, rv2, rfl, rfl⟩ := z
      obtain ⟨h2, g2, d2, t2, o2⟩ := s'
      refine ⟨rv2, end0 I young grown un2 ok2 os2 bare2 upd_same (raises_own Vx.ox.exC Vx.ox.tyC) ?_⟩
      have e : del (upd H (h.objs.size + 1) (exo (h.objs.size + 1) C none)) (h.objs.size + 1) = H := by
        funext b
        by_cases nb : b = h.objs.size + 1
        · rw [nb, del_same, I.hok.fresh young]
        · rw [del_ne nb, upd_ne nb]
      rw [e]
      exact q
    | next => exact False.elim z
    | brk => exact False.elim z
    | cont => exact False.elim z
end
end TK
/-! Own toolkit, part g: len(set(xs)) of a list or a tuple of texts, however many. -/
namespace TK
open PySem PySem.Spec PyProof.Rows L2
/-- how many different texts stand among the first i -/
def diff (xs : List Str) : Nat → Nat
  | 0 => 0
  | i + 1 => if (xs.take i).any (· == xs.getD i Str.empty) then diff xs i else diff xs i + 1
theorem diff_le (xs : List Str) : ∀ i, diff xs i ≤ i
  | 0 => Nat.le_refl _
  | i + 1 => by
    unfold diff
    have := diff_le xs i
    split <;> omega
theorem any_next (xs : List Str) {i : Nat} (h : i < xs.length) (k : Str) : ((xs.take i).any (· == k) || decide (k = xs.getD i Str.empty)) = (xs.take (i + 1)).any (· == k) := by
  rw [List.take_succ_eq_append_getElem h, List.any_append, List.getD_eq_getElem?_getD, List.getElem?_eq_getElem h]
  congr 1
  by_cases e : k = xs[i]
  · subst e
    simp
  · have : (xs[i] == k) = false := by simpa [beq_iff_eq] using fun z : xs[i] = k => e z.symm
    simp [this, e]
abbrev fresh (led : Bool) : Obj := { cls := .type "set", dict := none, data := .set #[] 0 (.fresh 0 0 led) }
section
variable {prog : Program} {w : World} {A : Around} {R : Result → Shared → Prop} {I : Addr} {fp wr : List Addr} {G : Array GenState → Array GenState → Prop} {n : Nat} {P : Nat → Value → Prop} {St : Nat → Shared → Prop}
/-- the set's own loop over what is walked: texts -/
theorem fill_texts (W : WalksS prog w A.in1 I fp wr G n P St) (S : Addr) (away : S ∉ fp) (xs : List Str) (many : xs.length = n) (few : n + 1 < scanBound) (texts : ∀ i v, P i v → ∃ t, v = .str (xs.getD i Str.empty) t) :
    ∀ (left i : Nat) (s : Shared), n - i = left → i ≤ n → St i s → s.heap.SetOf (PySem.strKind prog w) S (fun k => (xs.take i).any (· == k)) (diff xs i) →
      (∀ s', Moved (S :: wr) G s s' → s'.heap.SetOf (PySem.strKind prog w) S (fun k => (xs.take n).any (· == k)) (diff xs n) → R (.ok (.ret .none)) s') →
      codeAny (model prog w) A (.builtin "set.update.loop" ⟨[.ref S, .ref I], []⟩) R s := by
  have out : S ∉ wr := fun h => away (W.sub _ h)
  have wider : ∀ b ∈ wr, b ∈ S :: wr := fun b hb => List.mem_cons_of_mem _ hb
  intro left
  induction left with
  | zero =>
    intro i s hk hi st hS fin
    obtain rfl : i = n := by omega
    refine codeAny_builtin PyProof.Rows.F.entry_set_update_loop ?_
    rw [Around.under_plainId PyProof.Rows.F.plain_set_update_loop _]
    refine wpAny_bind (m := pyNext (.ref I)) (W.done s _ _ st fun s1 mv => ?_)
    exact wpAny_pure (fin s1 (mv.mono wider) (let ⟨o, es, ep, t, ho, r⟩ := hS; ⟨o, es, ep, t, mv.heap S _ out ho, r⟩))
  | succ left ih =>
    intro i s hk hi st hS fin
    have lt : i < n := by omega
    refine codeAny_builtin PyProof.Rows.F.entry_set_update_loop ?_
    rw [Around.under_plainId PyProof.Rows.F.plain_set_update_loop _]
    refine wpAny_bind (m := pyNext (.ref I)) (W.item i s _ _ lt st fun v s1 hP st1 mv => ?_)
    obtain ⟨t, rfl⟩ := texts i v hP
    have hS1 : s1.heap.SetOf (PySem.strKind prog w) S (fun k => (xs.take i).any (· == k)) (diff xs i) := let ⟨o, es, ep, tb, ho, r⟩ := hS; ⟨o, es, ep, tb, mv.heap S _ out ho, r⟩
    refine wpAny_bind (m := holding [Value.str (xs.getD i Str.empty) t] (setAdd S (.str (xs.getD i Str.empty) t))) (wpAny_holding ?_)
    unfold setAdd
    refine wpAny_holding (wpAny_bind ((PySem.strKind prog w).pyHash (k := xs.getD i Str.empty) (strKind_is _ _ _ _) ?_))
    have room : diff xs i + 1 < scanBound := by have := diff_le xs i; omega
    refine wpAny_setAddHashed_of (knd := PySem.strKind prog w) (s := { s1 with toks := s1.toks + 1 }) (strKind_is _ _ _ _) rfl hS1 room fun h2 sb hS2 => ?_
    have hS3 : h2.SetOf (PySem.strKind prog w) S (fun k => (xs.take (i + 1)).any (· == k)) (diff xs (i + 1)) := SetOf_congr hS2 (fun k => any_next xs (by omega) k) rfl
    refine wpAny_pure ⟨plainId_quiet PyProof.Rows.F.plain_set_update_loop _, ih (i + 1) _ (by omega) lt (W.frame _ s1 _ _ st1 (Nat.le_succ _) fun b hb o e => (sb.2 b fun z : b = S => away (z ▸ hb)).trans e) hS3 fun s4 mv4 hS4 => ?_⟩
    exact fin s4 (Moved.trans W.gtrans ((mv.mono wider).then_heap (Nat.le_succ _) fun b o hb e => (sb.2 b fun z : b = S => hb (z ▸ List.mem_cons_self)).trans e) mv4) hS4
end
section
variable {prog : Program} {w : World} {A : Around} {E : Value → Shared → Prop} {s : Shared}
set_option maxHeartbeats 3200000 in
theorem set_of_list {l : Addr} {items : Array Value} {xs : List Str} {Q : Value → Shared → Prop} (calm : A.handled = none) (at_ : s.heap.IsList l items) (are : StrsAre items.toList xs) (few : xs.length + 1 < scanBound)
    (q : ∀ (h' : Heap) (tk : Nat), h'.SetOf (PySem.strKind prog w) s.heap.objs.size (fun k => (xs.take xs.length).any (· == k)) (diff xs xs.length) → (∀ b o, b < s.heap.objs.size → s.heap.get? b = some o → h'.get? b = some o) → Q (.ref s.heap.objs.size) { s with heap := h', toks := tk }) :
    wpAny (model prog w) A (call (.type "set") [.ref l]) Q E s := by
  have many : xs.length = items.size := by rw [← StrsAre.len_eq are, Array.length_toList]
  obtain ⟨c0, c1, mro_⟩ := PySem.F.called_set.mro
  have made_ := PySem.F.called_set.made
  have sub_ := PySem.F.called_set.sub
  have f1 := PySem.F.called_set.notType
  have f2 := PySem.F.called_set.canCreate
  have f3 := PySem.F.typeCall_set_1 (.ref l)
  refine wpAny_call (codeAny_of_tree ?_)
  change wpAny _ _ (callAny (Value.type "set") _) _ _ _
  refine wpAny_pure (And.intro (Code.quiet_builtin _ (by decide +kernel)) (codeAny_builtin PySem.F.entry_type_call ?_))
  rw [Around.under_plain (weight_type_call_type "set" [.ref l] []) rfl]
  repeat (any_goals (first | assumption | wp_step))
  refine codeAny_mono (code_set_new_1 (.ref l) (E := E) (Q₁ := fun o1 s1 => ∃ led : Bool, o1 = .ref s.heap.objs.size ∧ s1 = { s with heap := s.heap.push (fresh led) }) fun led => ⟨led, rfl, rfl⟩) fun r s1 hr => ?_
  cases r with
  | error e => exact hr
  | ok fl =>
    cases fl with
    | ret o1 =>
      obtain ⟨led, rfl, rfl⟩ := hr
      have there : (s.heap.push (fresh led)).get? s.heap.objs.size = some (fresh led) := Heap.get?_push_size _ rfl
      have ty : Shared.TypeIs { s with heap := s.heap.push (fresh led) } (.ref s.heap.objs.size) "set" := ⟨_, there, rfl⟩
      have i1 := PySem.F.called_set.init.lookup
      have i2 := PySem.F.called_set.init.bind (.ref s.heap.objs.size)
      repeat (any_goals (first | assumption | wp_step))
      refine codeAny_mono (codeAny_call_builtin (R := wants (fun r s2 => r = .none ∧ ∃ h' tk, s2 = { s with heap := h', toks := tk } ∧ h'.SetOf (PySem.strKind prog w) s.heap.objs.size (fun k => (xs.take xs.length).any (· == k)) (diff xs xs.length) ∧
          (∀ b o, b < s.heap.objs.size → s.heap.get? b = some o → h'.get? b = some o)) E) PySem.F.called_set.init.plain PySem.F.entry_set_init (check_set_init_1 ty ?_)) fun r2 s2 hr2 => ?_
      · obtain ⟨⟨k0, k1, k2, k3⟩, ol, e0, nl, e2⟩ := at_
        simp only at e0 e2
        subst e0; subst e2
        have ol2 : (s.heap.push (fresh led)).get? l = some { cls := .type "list", dict := k1, data := .seq items nl, slots := k3 } := Heap.get?_push_of_some _ ol
        have n1 := PySem.F.sub_list_set
        have n2 := PySem.F.sub_list_frozenset
        have n3 : (Value.type "list" == Value.type "dict") = false := by decide
        have is2 : (s.heap.push (fresh led)).IsList l items := ⟨_, ol2, rfl, nl, rfl⟩
        unfold Builtin.«set.__init__» noKeywords Builtin.Frozenset.updateFrom
        generalize hPI : pyIter = walkIt
        wp_walk
        subst hPI
        refine wpAny_pyIter_list is2 (wpAny_bind (wpAny_runValue ?_))
        have lt : l < s.heap.objs.size := Heap.lt_size ol
        have calm3 : A.in1.in1.in1.handled = none := by simp [calm]
        have ap : l ≠ (s.heap.push (fresh led)).objs.size := by
          rw [Heap.size_push]
          exact Nat.ne_of_lt (Nat.lt_succ_of_lt lt)
        have away : s.heap.objs.size ∉ [(s.heap.push (fresh led)).objs.size, l] := by
          rw [Heap.size_push]
          simp only [List.mem_cons, List.not_mem_nil, or_false, not_or]
          exact ⟨Nat.ne_of_lt (Nat.lt_succ_self _), Nat.ne_of_gt lt⟩
        refine fill_texts ((Walks.list calm3 _ l ap items).toS) s.heap.objs.size away xs many (by rw [← many]; exact few) (fun i v hv => SS.strs_at are i v (by rw [Array.getElem?_toList]; exact hv)) (items.size - 0) 0 _ (by omega) (Nat.zero_le _)
          ⟨⟨_, Heap.get?_push_size _ rfl, rfl, rfl⟩, is2.push _⟩ (SetOf_congr ((setObjOf_fresh (knd := PySem.strKind prog w) led).setOf (Heap.get?_push_of_some _ there) (by unfold scanBound; omega)) (fun _ => rfl) rfl) fun s3 mv hS => ?_
        obtain ⟨h', g', d', tk', os'⟩ := s3
        have eg : g' = s.gens := mv.gens
        have ed : d' = s.drawn := mv.drawn
        have eo : os' = s.os := mv.os
        subst eg; subst ed; subst eo
        rw [← many] at hS
        refine wpAny_pure (wpAny_pure ⟨rfl, h', tk', rfl, hS, fun b o hb e => ?_⟩)
        refine mv.heap b o (fun hm => ?_) (Heap.get?_push_of_some _ (Heap.get?_push_of_some _ e))
        rcases List.mem_cons.mp hm with z | z
        · exact Nat.lt_irrefl b (z ▸ hb)
        · have z := List.mem_singleton.mp z
          rw [Heap.size_push] at z
          rw [z] at hb
          exact Nat.not_lt_of_le (Nat.le_succ _) hb
      · cases r2 with
        | error e => exact hr2
        | ok f2 =>
          cases f2 with
          | ret r =>
            obtain ⟨rfl, h', tk, rfl, hS, kp⟩ := hr2
            repeat (any_goals (first | assumption | wp_step))
            exact q _ _ hS kp
          | _ => exact hr2.elim
    | _ => exact hr.elim
end
section
variable {prog : Program} {w : World} {A : Around} {E : Value → Shared → Prop} {s : Shared}
set_option maxHeartbeats 3200000 in
theorem set_of_tuple {l : Addr} {items : Array Value} {xs : List Str} {Q : Value → Shared → Prop} (calm : A.handled = none) (at_ : s.heap.IsTuple l items) (are : StrsAre items.toList xs) (few : xs.length + 1 < scanBound)
    (q : ∀ (h' : Heap) (tk : Nat), h'.SetOf (PySem.strKind prog w) s.heap.objs.size (fun k => (xs.take xs.length).any (· == k)) (diff xs xs.length) → (∀ b o, b < s.heap.objs.size → s.heap.get? b = some o → h'.get? b = some o) → Q (.ref s.heap.objs.size) { s with heap := h', toks := tk }) :
    wpAny (model prog w) A (call (.type "set") [.ref l]) Q E s := by
  have many : xs.length = items.size := by rw [← StrsAre.len_eq are, Array.length_toList]
  obtain ⟨c0, c1, mro_⟩ := PySem.F.called_set.mro
  have made_ := PySem.F.called_set.made
  have sub_ := PySem.F.called_set.sub
  have f1 := PySem.F.called_set.notType
  have f2 := PySem.F.called_set.canCreate
  have f3 := PySem.F.typeCall_set_1 (.ref l)
  refine wpAny_call (codeAny_of_tree ?_)
  change wpAny _ _ (callAny (Value.type "set") _) _ _ _
  refine wpAny_pure (And.intro (Code.quiet_builtin _ (by decide +kernel)) (codeAny_builtin PySem.F.entry_type_call ?_))
  rw [Around.under_plain (weight_type_call_type "set" [.ref l] []) rfl]
  repeat (any_goals (first | assumption | wp_step))
  refine codeAny_mono (code_set_new_1 (.ref l) (E := E) (Q₁ := fun o1 s1 => ∃ led : Bool, o1 = .ref s.heap.objs.size ∧ s1 = { s with heap := s.heap.push (fresh led) }) fun led => ⟨led, rfl, rfl⟩) fun r s1 hr => ?_
  cases r with
  | error e => exact hr
  | ok fl =>
    cases fl with
    | ret o1 =>
      obtain ⟨led, rfl, rfl⟩ := hr
      have there : (s.heap.push (fresh led)).get? s.heap.objs.size = some (fresh led) := Heap.get?_push_size _ rfl
      have ty : Shared.TypeIs { s with heap := s.heap.push (fresh led) } (.ref s.heap.objs.size) "set" := ⟨_, there, rfl⟩
      have i1 := PySem.F.called_set.init.lookup
      have i2 := PySem.F.called_set.init.bind (.ref s.heap.objs.size)
      repeat (any_goals (first | assumption | wp_step))
      refine codeAny_mono (codeAny_call_builtin (R := wants (fun r s2 => r = .none ∧ ∃ h' tk, s2 = { s with heap := h', toks := tk } ∧ h'.SetOf (PySem.strKind prog w) s.heap.objs.size (fun k => (xs.take xs.length).any (· == k)) (diff xs xs.length) ∧
          (∀ b o, b < s.heap.objs.size → s.heap.get? b = some o → h'.get? b = some o)) E) PySem.F.called_set.init.plain PySem.F.entry_set_init (check_set_init_1 ty ?_)) fun r2 s2 hr2 => ?_
      · obtain ⟨⟨k0, k1, k2, k3⟩, ol, e0, nl, e2⟩ := at_
        simp only at e0 e2
        subst e0; subst e2
        have ol2 : (s.heap.push (fresh led)).get? l = some { cls := .type "tuple", dict := k1, data := .seq items nl, slots := k3 } := Heap.get?_push_of_some _ ol
        have n1 := PySem.F.sub_tuple_set
        have n2 := PySem.F.sub_tuple_frozenset
        have n3 : (Value.type "tuple" == Value.type "dict") = false := by decide
        have is2 : (s.heap.push (fresh led)).IsTuple l items := ⟨_, ol2, rfl, nl, rfl⟩
        unfold Builtin.«set.__init__» noKeywords Builtin.Frozenset.updateFrom
        generalize hPI : pyIter = walkIt
        wp_walk
        subst hPI
        refine wpAny_pyIter_tuple is2 (wpAny_bind (wpAny_runValue ?_))
        have lt : l < s.heap.objs.size := Heap.lt_size ol
        have calm3 : A.in1.in1.in1.handled = none := by simp [calm]
        have ap : l ≠ (s.heap.push (fresh led)).objs.size := by
          rw [Heap.size_push]
          exact Nat.ne_of_lt (Nat.lt_succ_of_lt lt)
        have away : s.heap.objs.size ∉ [(s.heap.push (fresh led)).objs.size, l] := by
          rw [Heap.size_push]
          simp only [List.mem_cons, List.not_mem_nil, or_false, not_or]
          exact ⟨Nat.ne_of_lt (Nat.lt_succ_self _), Nat.ne_of_gt lt⟩
        refine fill_texts ((Walks.tuple calm3 _ l ap items).toS) s.heap.objs.size away xs many (by rw [← many]; exact few) (fun i v hv => SS.strs_at are i v (by rw [Array.getElem?_toList]; exact hv)) (items.size - 0) 0 _ (by omega) (Nat.zero_le _)
          ⟨⟨_, Heap.get?_push_size _ rfl, rfl, rfl⟩, is2.push _⟩ (SetOf_congr ((setObjOf_fresh (knd := PySem.strKind prog w) led).setOf (Heap.get?_push_of_some _ there) (by unfold scanBound; omega)) (fun _ => rfl) rfl) fun s3 mv hS => ?_
        obtain ⟨h', g', d', tk', os'⟩ := s3
        have eg : g' = s.gens := mv.gens
        have ed : d' = s.drawn := mv.drawn
        have eo : os' = s.os := mv.os
        subst eg; subst ed; subst eo
        rw [← many] at hS
        refine wpAny_pure (wpAny_pure ⟨rfl, h', tk', rfl, hS, fun b o hb e => ?_⟩)
        refine mv.heap b o (fun hm => ?_) (Heap.get?_push_of_some _ (Heap.get?_push_of_some _ e))
        rcases List.mem_cons.mp hm with z | z
        · exact Nat.lt_irrefl b (z ▸ hb)
        · have z := List.mem_singleton.mp z
          rw [Heap.size_push] at z
          rw [z] at hb
          exact Nat.not_lt_of_le (Nat.le_succ _) hb
      · cases r2 with
        | error e => exact hr2
        | ok f2 =>
          cases f2 with
          | ret r =>
            obtain ⟨rfl, h', tk, rfl, hS, kp⟩ := hr2
            repeat (any_goals (first | assumption | wp_step))
            exact q _ _ hS kp
          | _ => exact hr2.elim
    | _ => exact hr.elim
end
section
variable {X : Cx}
/-- len(set(xs)) -/
def tLenSetA (K : PySem.W.Frag) (ta : TE) : TE := fun σ H Q => ta σ H fun x H1 => ∃ l, ∃ xs : List Str, x = .ref l ∧ (SqL K H1 l (xs.map V.str) ∨ SqT K H1 l (xs.map V.str)) ∧ xs.length ≤ 1000 ∧ Q (.int (diff xs xs.length)) H1
theorem pe_lenSetA {a : Expr} {ta : TE} {p p2 q pos : Pos} (hc : X.calm = true) (hg : Gl X "len") (hm : X.mg "len" = none) (hg2 : Gl X "set") (hm2 : X.mg "set" = none) (ha : PE X a ta)
    (na : starEach [a] X.env = (false, eval a X.env) :: starEach [] X.env := by rfl) : PE X (.Call (.Name "len" p) [.Call (.Name "set" p2) [a] [] q] [] pos) (tLenSetA X.K ta) := by
  refine ⟨fun pins s σ H Q I h => Call_ (ld_blt I hg hm boot_len (callWith_builtin1 (args_cons (Call_ (ld_blt I hg2 hm2 boot_set (callWith_type1 (args_cons (thn (ha.run pins s σ H _ I h) fun v s1 ⟨x, H1, I1, r1, q1⟩ => args_nil ?_) na) na rfl))) rfl) rfl rfl))⟩
  obtain ⟨l, xs, rfl, hq, few, q1⟩ := q1
  cases r1
  have fin : ∀ (h' : Heap) (tk : Nat), h'.SetOf (PySem.strKind X.prog X.w) s1.heap.objs.size (fun k => (xs.take xs.length).any (· == k)) (diff xs xs.length) → (∀ b o, b < s1.heap.objs.size → s1.heap.get? b = some o → h'.get? b = some o) →
      wpAny (model X.prog X.w) X.A (spliced (backTo pos (starEach [] X.env))) (fun vs s2 => wpAny (model X.prog X.w) X.A (call (.builtin "len") (Value.ref s1.heap.objs.size :: vs)) (EP X pins σ Q) X.xe s2) X.xe { s1 with heap := h', toks := tk } := fun h' tk hS kp => by
    refine args_nil ?_
    obtain ⟨o, es, ep, t, ho, hex, hd, _, _, _, hf, hn⟩ := hS
    have I2 : Inv X pins σ H1 { s1 with heap := h', toks := tk } := I1.kept fun b o e => kp b o (Heap.lt_size e) e
    have le := diff_le xs xs.length
    exact call_len_set ho hex hd hf (by rw [hn] <;> omega) ⟨.int (diff xs xs.length), H1, I2.tok _, ⟨_, by rw [hn]⟩, q1⟩
  have few2 : xs.length + 1 < scanBound := by unfold scanBound; omega
  rcases hq with hq | hq
  · obtain ⟨its, r, pl, hz⟩ := I1.list hq
    exact set_of_list (I1.ok.hd hc) pl.isList (by simpa using L2.strsAre_of r) few2 fin
  · obtain ⟨its, r, pl, hz⟩ := I1.tuple hq
    exact set_of_tuple (I1.ok.hd hc) pl (by simpa using L2.strsAre_of r) few2 fin
end
end TK
/-! Own toolkit, part j: for i, x in enumerate(t), t a tuple; t[::-1], t a tuple. -/
namespace TK
open PySem PySem.Spec PyProof.Rows L2
open AutoSeq1 (wpAny_loadPart')
theorem enum_new (l : Addr) (items : Array Value) (n : Nat) (dc : Option Addr) (sl : Array (Option Value)) :
    Meets (Builtin.«enumerate.__new__» ⟨[.type "enumerate", .ref l], []⟩) (fun _ R s => s.heap.get? l = some { cls := .type "tuple", dict := dc, data := .seq items n, slots := sl } ∧
      R (.ok (.ret (.ref (s.heap.push { cls := .type "tuple_iterator", data := .fields #[.ref l, .int 0 0] }).objs.size)))
        { s with heap := (s.heap.push { cls := .type "tuple_iterator", data := .fields #[.ref l, .int 0 0] }).push { cls := .type "enumerate", data := .fields #[.none, .bool false, .ref s.heap.objs.size, rawInt 0, .none, .none] } }) :=
  .of_wp fun prog w A R s hyp => by
    obtain ⟨hp, gg, d, tk, os⟩ := s
    obtain ⟨at_, fin⟩ := hyp
    have hsub := sub_enumerate
    have it_ : Heap.IsTuple (Shared.heap ⟨hp, gg, d, tk, os⟩) l items := ⟨_, at_, rfl, n, rfl⟩
    wp_walk using wpAny_loadPart' at_
    refine wpAny_stack_any fun st => wpAny_pure ?_
    split
    · rename_i c _ _ _ _ _
      cases (c == Value.type "enumerate")
      · wp_walk using wpAny_loadPart' at_, wpAny_pyIter_tuple it_
        exact ⟨_, rfl, fin⟩
      · wp_walk using wpAny_loadPart' at_, wpAny_pyIter_tuple it_
        exact ⟨_, rfl, fin⟩
    · wp_walk using wpAny_loadPart' at_, wpAny_pyIter_tuple it_
      exact ⟨_, rfl, fin⟩
section
variable {prog : Program} {w : World} {A : Around} {E : Value → Shared → Prop} {s : Shared}
theorem call_enumT {l : Addr} {items : Array Value} {Q : Value → Shared → Prop} (hL : s.heap.IsTuple l items)
    (q : ∀ h', IsEnum h' (s.heap.objs.size + 1) s.heap.objs.size 0 .none → h'.IsTupleIter s.heap.objs.size l 0 → (∀ b o, s.heap.get? b = some o → h'.get? b = some o) → Q (.ref (s.heap.objs.size + 1)) { s with heap := h' }) :
    wpAny (model prog w) A (call (.type "enumerate") [.ref l]) Q E s := by
  obtain ⟨⟨c, dc, dt, sl⟩, at_, ec, n, ed⟩ := hL
  replace ec : c = .type "tuple" := ec
  replace ed : dt = .seq items n := ed
  subst ec ed
  refine callType_new PySem.F.called_enumerate (by decide) (PySem.F.typeCall_enumerate_1 _) (PySem.F.newCall_enumerate_1 _) (fun obj => PySem.F.args_object_init_2 obj _) PySem.F.entry_enumerate_new (enum_new l items n dc sl) ⟨at_, ?_⟩
  have sz : (s.heap.push { cls := .type "tuple_iterator", data := .fields #[.ref l, .int 0 0] }).objs.size = s.heap.objs.size + 1 := Heap.size_push ..
  show _ ∧ _
  rw [sz]
  have en : IsEnum ((s.heap.push { cls := .type "tuple_iterator", data := .fields #[.ref l, .int 0 0] }).push { cls := .type "enumerate", data := .fields #[.none, .bool false, .ref s.heap.objs.size, rawInt 0, .none, .none] }) (s.heap.objs.size + 1) s.heap.objs.size 0 .none := by
    have z := Heap.get?_push_size (s.heap.push { cls := .type "tuple_iterator", data := .fields #[.ref l, .int 0 0] }) (o := { cls := .type "enumerate", data := .fields #[.none, .bool false, .ref s.heap.objs.size, rawInt 0, .none, .none] }) rfl
    rw [sz] at z
    exact z
  exact ⟨⟨_, en, rfl⟩, q _ en ⟨_, Heap.get?_push_of_some _ (Heap.get?_push_size _ rfl), rfl, rfl⟩ fun b o x => Heap.get?_push_of_some _ (Heap.get?_push_of_some _ x)⟩
end
section
variable {prog : Program} {w : World} {A : Around} {E : Value → Shared → Prop} {s : Shared}
theorem enum_end {e it l : Addr} {i : Nat} {items : Array Value} {old : Value} {Q : Option Value → Shared → Prop} (calm : A.handled = none) (he : IsEnum s.heap e it i old) (hit : s.heap.IsTupleIter it l i) (hl : s.heap.IsTuple l items) (hx : items[i]? = none)
    (q : ∀ h', Heap.ExtBut it s.heap h' → Q none { s with heap := h' }) : wpAny (model prog w) A (pyNext (.ref e)) Q E s := by
  have ty : s.TypeIs (.ref e) "enumerate" := ⟨_, he, rfl⟩
  unfold pyNext
  refine wpAny_bind (wpAny_attempt (wpAny_callSpecial?_slot (name := Str.ofString "__next__") ty PySem.F.slot_enumerate_next (wpAny_call_entry PySem.F.slot_enumerate_next ty PySem.F.entry_enumerate_next ?_ (PySem.F.args_enumerate_next_1 _))))
  refine wpAny_bind (m := field (.ref e) 2) (wpAny_field he rfl (x := .ref it) rfl (wpAny_bind (wpAny_nextOf_tuple_end calm hit hl hx fun h' x eb ex => ?_)))
  obtain ⟨o, ho, hc⟩ := ex
  exact wpAny_bind (wpAny_isInstance (T := "StopIteration") (b := true) ⟨o, ho, hc⟩ isSubtype_stop (wpAny_pure (q _ eb)))
end
/-- the tuple at a, each item with its number in a new pair -/
def IteT (K : PySem.W.Frag) (a : Addr) : It :=
  ⟨fun i H => ∃ (xs : List V) (x : V), SqT K H a xs ∧ xs[i]? = some x, fun i H v H' => ∃ T x, v = .ref T ∧ H T = none ∧ H' = upd H T (.tup [.int (i : Nat), x]) ∧ ∀ xs, SqT K H a xs → xs[i]? = some x, fun i H => ∃ xs : List V, SqT K H a xs ∧ xs.length ≤ i⟩
theorem turn_enumT {P : Program} {w : World} {K : PySem.W.Frag} {elts : List Expr} {kk : Nat} {tpos : Pos} (a e it : Addr) (apart : a ≠ it) :
    Turn P w K (.Tuple elts kk tpos) (IteT K a) [e, it] e (fun i h => (∃ old, IsEnum h e it ((i : Nat) : Int) old) ∧ h.IsTupleIter it a i ∧ e ≠ it) where
  mem := List.mem_cons_self
  obj := fun i h st b hb => by
    obtain ⟨⟨old, he⟩, ⟨o, ho, _, hd⟩, _⟩ := st
    rcases List.mem_cons.mp hb with rfl | z
    · exact ⟨_, he, fun v q => nomatch q⟩
    · cases List.mem_singleton.mp z
      exact ⟨o, ho, fun v q => by rw [hd] at q; cases q⟩
  keep := fun i h h' st k => let ⟨⟨old, he⟩, hi, ne⟩ := st; ⟨⟨old, k e List.mem_cons_self _ he⟩, hi.at fun o q => k it (List.mem_cons_of_mem _ List.mem_cons_self) o q, ne⟩
  item := by
    intro X e1 e2 e3 calm i pins s σ H E I free st more
    subst e1 e2 e3
    obtain ⟨⟨old, he⟩, hit, ne⟩ := st
    obtain ⟨xs, x, hq, hx⟩ := more
    obtain ⟨its, rv, p, hz⟩ := I.tuple hq
    obtain ⟨u, hu, ru⟩ := rv.get hx
    have le : e < s.heap.objs.size := Heap.lt_size he
    have li : it < s.heap.objs.size := let ⟨_, z, _⟩ := hit; Heap.lt_size z
    have hu2 : its.toArray[i]? = some u := by simpa using hu
    have lt : i < its.toArray.size := by
      rw [Array.getElem?_eq_some_iff] at hu2
      exact hu2.1
    have ea : e ≠ a := fun z => by
      obtain ⟨o, z1, z2, _⟩ := (show s.heap.IsTuple a its.toArray from p)
      rw [← z, he] at z1
      cases z1
      injection z2 with z3
      exact absurd z3 (by decide)
    refine wpAny_pyNext_enum_itemD (Draws.tuple (A := X.A.in1) (I.ok.hd calm) it a apart its.toArray) he ⟨hit, p⟩ lt ne (by simp [ne, ea]) fun y h' tk hy ho st' hT hsz hk => ?_
    have ey : y = u := by rw [hu2] at hy; exact (Option.some.inj hy).symm
    subst ey
    refine ⟨_, rfl, wpAny_letOwnedTupleGo_enum (s := { s with heap := h', toks := tk + 1 }) ho fun h2 he2 sb => ?_⟩
    have T2 : h2.get? s.heap.objs.size = some { cls := .type "tuple", data := .seq #[.int i tk, y] } := (sb.2 _ (Nat.ne_of_gt le)).trans hT
    have new : ObjOk X.prog X.w (upd H s.heap.objs.size (.tup [.int (i : Nat), x])) h2 s.heap.objs.size (.tup [.int (i : Nat), x]) := ⟨by show 2 ≤ sizeLine; decide, [.int i tk, y], .cons ⟨_, rfl⟩ (.cons ru .nil), ⟨_, T2, rfl, _, rfl⟩⟩
    have J : Inv X pins σ (upd H s.heap.objs.size (.tup [.int (i : Nat), x])) { s with heap := h2, toks := tk + 1 } :=
      I.turnedNew (ch := [e, it]) (fun b ob hb q => (sb.2 b fun z => hb (by simp [z])).trans (hk b ob (fun z => hb (by simp [z])) (fun z => hb (by simp [z])) q)) free (Nat.le_refl _) new
    refine ⟨.ref s.heap.objs.size, _, J, rfl, ⟨_, x, rfl, I.hok.fresh (Nat.le_refl _), rfl, fun ys hy => ?_⟩, ⟨⟨y, ?_⟩, st'.1.at fun o q => (sb.2 it (Ne.symm ne)).trans q, ne⟩, fun b hb => ?_⟩
    · rw [I.tuple_inj hy hq]
      exact hx
    · rw [show ((i + 1 : Nat) : Int) = (i : Int) + 1 by omega]
      exact he2
    · have lb : b < s.heap.objs.size := by
        rcases List.mem_cons.mp hb with rfl | z
        · exact le
        · cases List.mem_singleton.mp z
          exact li
      rw [upd_ne (Nat.ne_of_lt lb)]
      exact (free b hb).1
  done := by
    intro X e1 e2 e3 calm i pins s σ H E I free st more
    subst e1 e2 e3
    obtain ⟨⟨old, he⟩, hit, ne⟩ := st
    obtain ⟨xs, hq, hx⟩ := more
    obtain ⟨its, rv, p, hz⟩ := I.tuple hq
    obtain ⟨f0, f1, f2, f3, f4, f5⟩ := free it (List.mem_cons_of_mem _ List.mem_cons_self)
    have none_ : its.toArray[i]? = none := by
      have hl := rv.length
      simp
      omega
    exact enum_end (I.ok.hd calm) he hit p none_ fun h' eb => ⟨rfl, I.turned (t' := s.toks) (fun b o hb q => eb b o hb q) f0 f1 f3 f4 f5⟩
  self := fun A i s Q E st h => let ⟨⟨_, he⟩, _⟩ := st; wpAny_pyIter_enum he h
def iEnumT (K : PySem.W.Frag) (ta : TA) : TI := fun σ H R => ta σ H fun vs H1 => ∃ a xs, vs = [.ref a] ∧ SqT K H1 a xs ∧ R (IteT K a) H1
theorem pi_enumT {X : Cx} {e : Expr} {ta : TA} {p pos tpos : Pos} {elts : List Expr} {kk : Nat} (hg : Gl X "enumerate") (hm : X.mg "enumerate" = none) (ha : PA X [e] ta) (hs : starEach [e] X.env = [(false, eval e X.env)] := by rfl) :
    PI X (.Tuple elts kk tpos) (.Call (.Name "enumerate" p) [e] [] pos) (iEnumT X.K ta) := by
  refine ⟨fun pins s σ H R I h => Call_ (ld_blt I hg hm boot_enumerate (callWith_type1 (thn (ha.run pos pins s σ H _ I h) fun us s1 ⟨vs, H1, I1, r1, q1⟩ => ?_) hs rfl))⟩
  obtain ⟨a, xs, rfl, hq, q⟩ := q1
  obtain rfl := Vals.ref1 r1
  obtain ⟨its, rv, at_, hz⟩ := I1.tuple hq
  have old : a < s1.heap.objs.size := let ⟨_, z, _⟩ := at_; Heap.lt_size z
  refine call_enumT at_ fun h' he hit hk => wpAny_pyIter_enum he ?_
  refine ⟨s1.heap.objs.size + 1, [s1.heap.objs.size + 1, s1.heap.objs.size], _, _, H1, rfl, I1.kept (t' := s1.toks) hk, turn_enumT a (s1.heap.objs.size + 1) s1.heap.objs.size (Nat.ne_of_lt old), ⟨⟨.none, he⟩, hit, Nat.succ_ne_self _⟩, fun b hb => ?_, q⟩
  have young : s1.heap.objs.size ≤ b := by
    rcases List.mem_cons.mp hb with rfl | z
    · exact Nat.le_succ _
    · cases List.mem_singleton.mp z
      exact Nat.le_refl _
  exact I1.fpOk young (I1.hok.fresh young)
/-- over a tuple with numbers -/
theorem for_enumT {K : PySem.W.Frag} {a : Addr} {xs : List V} {g : TG} {tb : TS} {D : Ends} {σ : L2.St} {H : Hp} (Pv : Nat → L2.St → Hp → Prop) (h0 : Pv 0 σ H) (hl : ∀ i σ H, i ≤ xs.length → Pv i σ H → SqT K H a xs)
    (hs : ∀ i x T σ H, xs[i]? = some x → H T = none → Pv i σ H → g (.ref T) σ (upd H T (.tup [.int (i : Nat), x])) fun σ2 H2 => tb { D with nx := Pv (i + 1), ct := Pv (i + 1), bk := D.nx } σ2 H2) (hd : ∀ σ H, Pv xs.length σ H → D.nx σ H) :
    ∃ W : Nat → Nat → L2.St → Hp → Prop, (∃ m, W 0 m σ H) ∧ ∀ i m σ H, W i m σ H →
      ((IteT K a).stop i H ∧ D.nx σ H) ∨ ((IteT K a).go i H ∧ ∃ N : L2.St → Hp → Prop, (∀ σ' H', N σ' H' → ∃ m', m' < m ∧ W (i + 1) m' σ' H') ∧ ∀ v H', (IteT K a).yld i H v H' → g v σ H' fun σ2 H2 => tb { D with nx := N, ct := N, bk := D.nx } σ2 H2) := by
  refine ⟨fun i m σ H => m = xs.length - i ∧ i ≤ xs.length ∧ Pv i σ H, ⟨xs.length, by simp, Nat.zero_le _, h0⟩, ?_⟩
  rintro i m σ H ⟨rfl, hi, p⟩
  have q := hl i σ H hi p
  by_cases lt : i < xs.length
  · refine .inr ⟨⟨xs, xs[i], q, List.getElem?_eq_getElem lt⟩, Pv (i + 1), fun σ' H' p' => ⟨xs.length - (i + 1), by omega, rfl, lt, p'⟩, fun v H' y => ?_⟩
    obtain ⟨T, x, rfl, hT, rfl, hx⟩ := y
    exact hs i x T σ H (hx xs q) hT p
  · obtain rfl : i = xs.length := by omega
    exact .inl ⟨⟨xs, q, Nat.le_refl _⟩, hd σ H p⟩
end TK
/-! Own toolkit, part r: text + o (the right operand's own method), a tuple turned round. -/
namespace TK
open PySem PySem.Spec PyProof.Rows L2
section
open PySem.W PySem.Calls
variable {prog : Program} {w : World} {A : Around} {E : Value → Shared → Prop} {s : Shared} {K : PySem.W.Frag} {x C f f' : Addr} {ox : Obj} {od : Option Obj} {T : String}
/-- v op o, where v's type has no number slot of that name: o's reflected method answers -/
theorem bin_right {op : Operator} {a : Value} {fo ro : Option Value} {Q : Value → Shared → Prop} (X : K.In s.heap) (I : PySem.W.InstAt s.heap x ox C od) (ha : typeOf a = pure (.type T)) (hc : PySem.W.selfFirst K C = true)
    (hd : PySem.W.findIn K (.ref C) (PySem.dunder op.info.2) = some (some (.ref f'))) (hs : PySem.W.findIn K (.ref C) (dunderR op.info.2) = some (some (.ref f))) (hf : PySem.W.isFn K (.ref f) = true)
    (h1 : PySem.W.findIn K (.type T) (PySem.dunder op.info.2) = some fo) (h2 : PySem.W.findIn K (.type T) (dunderR op.info.2) = some ro) (hl : ((fo.isSome && !isSeqSlot fo) || (ro.isSome && !isSeqSlot ro)) = false)
    (h : wpAny (model prog w) A (call (.ref f) [.ref x, a]) (PySem.W.CmpBack Q) E s) : wpAny (model prog w) A (binaryOp op a (.ref x)) Q E s := by
  obtain ⟨cd, rest, hcd, hm⟩ := PySem.W.ksp_first hc
  rcases hi : op.info with ⟨sym, nm'⟩
  rw [hi] at hd hs h1 h2
  dsimp only at hd hs h1 h2
  have one := PySem.W.ksp_try X I hs hf h
  obtain ⟨hh, g, d, tt, os⟩ := s
  have Lx : PySem.W.Looks (model prog w) hh (typeOf (.ref x)) (.ref C) := I.type
  have La : PySem.W.Looks (model prog w) hh (typeOf a) (.type T) := PySem.W.Looks.of_pure ha
  have Lr : PySem.W.Looks (model prog w) hh (fillsNumberSlot (.ref C) nm') true := PySem.W.fills_K X hcd hm hd
  have Ll : PySem.W.Looks (model prog w) hh (fillsNumberSlot (.type T) nm') false := hl ▸ PySem.W.ksp_fillsT X h1 h2
  have hne : (Value.type T == Value.ref C) = false := Bool.eq_false_iff.mpr fun q => by cases beq_iff_eq.mp q
  simp only [binaryOp, hi]
  refine wpAny_holding (wpAny_bind ?_)
  unfold binaryOp1
  refine wpAny_bind (La.at (wpAny_bind (Lx.at (wpAny_bind (Ll.at ?_)))))
  simp only [hne, Bool.false_eq_true, if_false]
  ksp_lk
  refine wpAny_mono one (fun r s' hr' => ?_) fun _ _ e => e
  obtain ⟨v, rfl, hq⟩ := hr'
  ksp_lk
  exact hq
end
end TK
namespace TK
open PySem PySem.Spec PyProof.Rows L2
section
open HT
variable {prog : Program} {w : World} {A : Around} {E : Value → Shared → Prop} {s : Shared}
theorem back_adjust (n : Nat) : Builtin.Slice.sliceAdjust none none (-1) (n : Int) = ((n : Int) - 1, -1) := by
  unfold Builtin.Slice.sliceAdjust
  rfl
theorem back_places (n : Nat) : Builtin.Slice.slicePlaces ((n : Int) - 1) (-1) (-1) = n := by
  unfold Builtin.Slice.slicePlaces
  rw [if_neg (by decide)]
  by_cases h : (n : Int) - 1 > -1
  · rw [if_pos h, show (-(-1 : Int)) = 1 by decide, Int.ediv_one]
    omega
  · rw [if_neg h]
    omega
theorem back_applied {sl : Addr} {u : Tok} {n : Nat} {Q : Int × Int × Nat → Shared → Prop} (hs : s.heap.IsSliceOf sl .none .none (.int (-1) u)) (h : Q ((n : Int) - 1, -1, n) s) : wpAny (model prog w) A (Builtin.Slice.sliceApplied (.ref sl) (pure (n : Int))) Q E s := by
  obtain ⟨ob, hob, _, hflds⟩ := id hs
  unfold Builtin.Slice.sliceApplied Builtin.Slice.sliceFields
  have three := @wpAny_field
  refine wpAny_bind (wpAny_bind (wpAny_field hob hflds (x := .none) rfl (wpAny_bind (wpAny_field hob hflds (x := .none) rfl (wpAny_bind (wpAny_field hob hflds (x := .int (-1) u) rfl (wpAny_pure ?_)))))))
  refine wpAny_bind (slicePart_int ?_)
  show wpAny _ _ (if ((-1 : Int) == 0) = true then _ else _) _ _ s
  rw [if_neg (by decide)]
  refine wpAny_bind (slicePart_none (wpAny_bind (slicePart_none (wpAny_bind (wpAny_pure ?_)))))
  show wpAny _ _ (match Builtin.Slice.sliceAdjust none none (-1) (n : Int) with | (l, h) => pure (l, (-1 : Int), Builtin.Slice.slicePlaces l h (-1))) _ _ s
  rw [back_adjust n]
  show wpAny _ _ (pure ((n : Int) - 1, (-1 : Int), Builtin.Slice.slicePlaces ((n : Int) - 1) (-1) (-1))) _ _ s
  rw [back_places]
  exact wpAny_pure h
theorem fm_congr {α β : Type} {f g : α → Option β} : ∀ {l : List α}, (∀ m ∈ l, f m = g m) → l.filterMap f = l.filterMap g
  | [], _ => rfl
  | a :: l, h => by rw [List.filterMap_cons, List.filterMap_cons, h a List.mem_cons_self, fm_congr fun m hm => h m (List.mem_cons_of_mem _ hm)]
theorem back_pick (its : Array Value) : ((List.range its.size).filterMap fun (m : Nat) => its[(((its.size : Nat) : Int) - 1 + (m : Int) * (-1)).toNat]?).toArray = its.toList.reverse.toArray := by
  have e := PySem.W.krv_pick its
  unfold slicePick at e
  rw [PySem.W.krv_bounds] at e
  have e' : ((sliceRange ((its.size : Int) - 1) (-1) (-1)).filterMap (its[·]?)).toArray = its.toList.reverse.toArray := e
  rw [PySem.W.krv_sliceRange, List.filterMap_map] at e'
  rw [← e']
  refine congrArg List.toArray (fm_congr fun m hm => ?_)
  have := List.mem_range.mp hm
  have e1 : ((its.size : Int) - 1 + (m : Int) * (-1)).toNat = its.size - 1 - m := by omega
  rw [e1]
  rfl
theorem getItem_tuple_back {t sl : Addr} {its : Array Value} {u : Tok} {Q : Value → Shared → Prop} (ht : IsTup s.heap t its) (hs : s.heap.IsSliceOf sl .none .none (.int (-1) u))
    (h : Q (.ref s.heap.objs.size) { s with heap := s.heap.push { cls := .type "tuple", data := .seq its.toList.reverse.toArray } }) (hz : its.size ≤ sizeLine) : wpAny (model prog w) A (getItem (.ref t) (.ref sl)) Q E s := by
  have fits : sizeOk (.seq its.toList.reverse.toArray) := by
    show its.toList.reverse.toArray.size ≤ sizeLine
    rw [List.size_toArray, List.length_reverse, Array.length_toList]
    exact hz
  obtain ⟨ob, hob, hcs, _⟩ := id hs
  have kind : s.TypeIs (.ref sl) "slice" := ⟨ob, hob, hcs⟩
  unfold getItem
  try with_reducible refine wpAny_holding ?_
  first | refine wpAny_bind (wpAny_pure ?_) | skip
  refine wpAny_bind (wpAny_sequenceKey ht.typeIs (by decide) (wpAny_bind (wpAny_callSpecial?_slot (name := Str.ofString "__getitem__") ht.typeIs PyProof.Rows.slot_tuple_getitem
    (wpAny_call_entry PyProof.Rows.slot_tuple_getitem ht.typeIs entry_tuple_getitem ?_ (args_tuple_getitem _ _)))))
  show wpAny _ _ (Builtin.Tuple.tupleItemsOf (.ref t) >>= _) _ _ s
  refine wpAny_bind (tupleItemsOf_ ht (wpAny_bind (wpAny_typeOf kind ?_)))
  rw [if_pos (by decide)]
  refine wpAny_bind (back_applied hs ?_)
  have other : ¬ ((((its.size : Int) - 1) == 0 && (-1 : Int) == 1 && its.size == its.size) = true) := by
    intro q
    rw [Bool.and_eq_true, Bool.and_eq_true] at q
    exact absurd q.1.2 (by decide)
  show wpAny _ _ (if (((its.size : Int) - 1) == 0 && (-1 : Int) == 1 && its.size == its.size) = true then _ else _) _ _ s
  rw [if_neg other, back_pick]
  first
    | exact wpAny_bind (m := Builtin.Tuple.tupleExact _) (wpAny_newObj_type (wpAny_pure ⟨_, rfl, wpAny_pure h⟩) fits)
    | exact wpAny_bind (m := Builtin.Tuple.tupleExact _) (wpAny_newObj_type (wpAny_bind (wpAny_pure (wpAny_pure ⟨_, rfl, wpAny_pure h⟩))) fits)
    | exact wpAny_bind (wpAny_bind (m := Builtin.Tuple.tupleExact _) (wpAny_newObj_type (wpAny_pure (wpAny_pure ⟨_, rfl, wpAny_pure h⟩)) fits))
    | exact wpAny_bind (wpAny_bind (m := Builtin.Tuple.tupleExact _) (wpAny_newObj_type (wpAny_pure ⟨_, rfl, wpAny_pure h⟩) fits))
end
def tRevT (K : PySem.W.Frag) (te : TE) : TE := fun σ H Q => te σ H fun x H1 => ∃ a xs, x = .ref a ∧ SqT K H1 a xs ∧ ∀ p, H1 p = none → Q (.ref p) (upd H1 p (.tup xs.reverse))
section
variable {X : Cx}
/-- t[::-1], t a tuple -/
theorem pe_revT {e : Expr} {te : TE} {k : Nat} {p1 p2 p3 pos : Pos} (he : PE X e te) : PE X (.Subscript e (.Slice none none (some (.UnaryOp .USub (.Constant (.int 1) k p1) p2)) p3) pos) (tRevT X.K te) := by
  refine ⟨fun pins s σ H Q I h => ?_⟩
  refine Subscript_ (thn (he.run pins s σ H _ I h) fun v s1 ⟨x, H1, I1, r1, q1⟩ => ?_)
  obtain ⟨a, xs, ex, hx, q⟩ := q1
  subst ex
  cases r1
  have one : PO X (some (.UnaryOp .USub (.Constant (.int 1) k p1) p2)) (tPart (tUn (rU fun i => .int (-i)) (tC (.int 1)))) := po_some (pe_un un_neg pe_int)
  refine wpAny_Slice (thn (po_none.run pins s1 σ H1 (fun o H2 => o = none ∧ H2 = H1) I1 ⟨rfl, rfl⟩) fun vl s2 ⟨l, H2, I2, pl, el, e2⟩ => ?_)
  subst el e2
  refine thn (po_none.run pins s2 σ H2 (fun o H3 => o = none ∧ H3 = H2) I2 ⟨rfl, rfl⟩) fun vu s3 ⟨u, H3, I3, pu, eu, e3⟩ => ?_
  subst eu e3
  refine thn (one.run pins s3 σ H3 (fun o H4 => o = some (-1) ∧ H4 = H3) I3 ⟨1, rfl, -1, rfl, rfl, rfl⟩) fun vs s4 ⟨o, H4, I4, ps, eo, e4⟩ => ?_
  subst eo e4
  cases pl
  cases pu
  obtain ⟨tk, rfl⟩ : ∃ tk, vs = .int (-1) tk := by cases ps; exact ⟨_, rfl⟩
  have I5 : Inv X pins σ H4 { s4 with heap := s4.heap.push { cls := .type "slice", data := .fields #[Value.none, Value.none, .int (-1) tk] } } := I4.kept (t' := s4.toks) fun b ob q => Heap.get?_push_of_some _ q
  obtain ⟨its, r, ht, hz⟩ := I5.tuple hx
  have hlen := r.length
  show wpAny (model X.prog X.w) X.A (subscriptTail e (.Slice none none (some (.UnaryOp .USub (.Constant (.int 1) k p1) p2)) p3) (.ref a) (.ref s4.heap.objs.size)) (EP X pins σ Q) X.xe { s4 with heap := s4.heap.push { cls := .type "slice", data := .fields #[Value.none, Value.none, .int (-1) tk] } }
  refine tail_any (ops := [.ref a, .ref s4.heap.objs.size]) ht.typeIs PyProof.Rows.slot_tuple_getitem.lookup ?_ (by with_unfolding_all rfl)
  refine getItem_tuple_back ht (Heap.IsSliceOf.new _ _ _ _) ?_ (by rw [List.size_toArray]; omega)
  refine ⟨.ref _, _, I5.laid (t' := s4.toks) (o := .tup xs.reverse) (fun b ob q => Heap.get?_push_of_some _ q) (Nat.le_refl _) ?_, rfl, q _ (I5.hok.fresh (Nat.le_refl _))⟩
  refine ⟨by rw [List.length_reverse]; exact hz, its.reverse, r.reverse, ?_⟩
  exact IsTup.new _ _
end
end TK
/-! Own toolkit, part u: an exception class over an own one, as a yes-or-no fact of the top. -/
namespace TK
open PySem PySem.Spec PyProof.Rows L2 NdefX
def supUB (K : PySem.W.Frag) (C D g : Addr) : Bool := decide (PySem.W.mroIn K C (.ref D) = some true) && (decide (PySem.W.ks_superIn K C D "__init__" = some (some (.ref g))) && (decide (PySem.W.typeIn K (.ref g) = some (.type "function")) &&
  (PySem.W.fnIn K g && decide (PySem.W.nsIn K PySem.cStatics "thirdparty.any" = some none))))
theorem supUB_ok {K : PySem.W.Frag} {C D g : Addr} (h : supUB K C D g = true) : SupU K C D g := by
  obtain ⟨h1, h⟩ := ba2 h
  obtain ⟨h2, h⟩ := ba2 h
  obtain ⟨h3, h⟩ := ba2 h
  obtain ⟨h4, h5⟩ := ba2 h
  exact ⟨of_decide_eq_true h1, of_decide_eq_true h2, of_decide_eq_true h3, h4, of_decide_eq_true h5⟩
/-- class x, whose __init__ calls that of the own class y above it -/
def ownUB (K : PySem.W.Frag) (x y : Str) (fs : List Str) : Bool := supVB K (He.ga K x) (He.ga K y) && (supUB K (He.ga K x) (He.ga K x) (He.ma K (He.ga K y) "__init__") && (excCB K (He.ga K x) && (xfB K (He.ga K x) &&
  (fs.all (fun f => decide (PySem.W.findIn K (.ref (He.ga K x)) f = some none)) &&
  (decide (PySem.W.findIn K (.ref (He.ga K x)) "__init__" = some (some (.ref (He.ma K (He.ga K x) "__init__")))) && decide (PySem.W.typeIn K (.ref (He.ma K (He.ga K x) "__init__")) = some (.type "function")))))))
structure OwnU (K : PySem.W.Frag) (x y : Str) (fs : List Str) : Prop where
  v : SupV K (He.ga K x) (He.ga K y)
  u : SupU K (He.ga K x) (He.ga K x) (He.ma K (He.ga K y) "__init__")
  e : ExcC K (He.ga K x)
  f : XfC K (He.ga K x)
  n : ∀ f ∈ fs, PySem.W.findIn K (.ref (He.ga K x)) f = some none
  i : PySem.W.findIn K (.ref (He.ga K x)) "__init__" = some (some (.ref (He.ma K (He.ga K x) "__init__")))
  t : PySem.W.typeIn K (.ref (He.ma K (He.ga K x) "__init__")) = some (.type "function")
theorem ownUB_ok {K : PySem.W.Frag} {x y : Str} {fs : List Str} (h : ownUB K x y fs = true) : OwnU K x y fs := by
  obtain ⟨h1, h⟩ := ba2 h
  obtain ⟨h2, h⟩ := ba2 h
  obtain ⟨h3, h⟩ := ba2 h
  obtain ⟨h4, h⟩ := ba2 h
  obtain ⟨h5, h⟩ := ba2 h
  obtain ⟨h6, h7⟩ := ba2 h
  exact ⟨supVB_ok h1, supUB_ok h2, excCB_ok h3, xfB_ok h4, fun f hf => of_decide_eq_true (List.all_eq_true.mp h5 f hf), of_decide_eq_true h6, of_decide_eq_true h7⟩
theorem FactsN.supFU {fa : List He.Fa} {fn : List He.DefD} {ex : Ex} {fi : List IniD} {K : PySem.W.Frag} {mg : Str → Option Value} {P : Program} {fs : List Str} {y : Str} (T : FactsN fa fn ex fi K mg) (i : Nat) (d : IniD) (c : iniB P K d = true) (o : OwnU K d.cls y fs) (hs : mg "super" = none) (h : fi[i]? = some d := by rfl) :
    ∃ cc, SupF P K mg (He.ma K (He.ga K d.cls) "__init__") (fdOf K (d.cls, some "__init__")) (d.nf K) (He.ga K d.cls) cc := by
  refine ini_ok (T.ini_ i d h) c ?_ hs
  obtain ⟨cd, z, _⟩ := PySem.W.any_some o.f.hdC
  exact ⟨cd, z⟩
section
variable {X : Cx} {CX : CXT} {x y : Str} {k : Nat} {fd : FuncData} {ps fs : List Str} {e : Expr} {es : List Expr} {ta : TA} {p pos : Pos}
/-- C(e, ..) of such a class, as a thing to raise -/
theorem pmk_up (o : OwnU X.K x y fs) (F1 : FnOk X.prog X.w X.K X.mg X.base CX k (He.ma X.K (He.ga X.K x) "__init__") fd ps (spU X.K (He.ga X.K x) (He.ma X.K (He.ga X.K y) "__init__") (He.ga X.K y) fs)) (hr : Room (k + 1) X.A) (hb : Binds X.K fd ps []) (hx : Passes CX X (fun _ _ _ => False)) (hg : Gl X x) (hm : X.mg x = some (.ref (He.ga X.K x))) (ha : PA X (e :: es) ta)
    (hdb : (x == ("__debug__" : Str)) = false := by decide) (he : starEach (e :: es) X.env = (false, eval e X.env) :: starEach es X.env := by rfl) (hpl : (backTo pos (starEach es X.env)).any (·.1) = false := by rfl) :
    PMk X (.Call (.Name x p) (e :: es) [] pos) (fun σ H Q => ta σ H fun vs H1 => vs.length = fs.length ∧ vs.length ≤ 1000 ∧ ∀ d, H1 d = none → Q (.ref (He.ga X.K x)) (some d) (upd H1 d (.xd (fs.zip vs).reverse))) :=
  pmk_by o.v o.i o.t o.n F1 (fun a xs H Q E h hl z => ⟨a, _, xs, rfl, hl, h, o.u, z⟩) hr hb hx hg hm ha hdb he hpl
end
/-- what a class's operators with a built-in type on the right lean on -/
theorem binTB_first {K : PySem.W.Frag} {C : Addr} {nm T : String} (h : binTB K C nm T = true) : PySem.W.selfFirst K C = true := by
  unfold binTB at h
  simp only [Bool.and_eq_true] at h
  exact h.1.1.1.1
/-- the same with the built-in type on the left -/
def binRB (K : PySem.W.Frag) (C : Addr) (nm T : String) : Bool := PySem.W.selfFirst K C && (match PySem.W.findIn K (.type T) (PySem.dunder nm), PySem.W.findIn K (.type T) (dunderR nm) with
  | some fo, some ro => !((fo.isSome && !isSeqSlot fo) || (ro.isSome && !isSeqSlot ro))
  | _, _ => false)
section
variable {X : Cx} {CX : CXT} {k : Nat} {C f g : Addr} {fd : FuncData} {ps : List Str} {sp : Sp} {E : XK}
def rDunR (C : Addr) (T : String) (sp : Sp) (E : XK) : R2 := fun x y H Q => ∃ p dx fs, y = .ref p ∧ H p = some (.ins C dx fs) ∧ (∀ u, RelV x u → typeOf u = pure (.type T)) ∧ sp [.ref p, x] H Q E
/-- v op o -/
theorem op_ownR {op : Operator} {T : String} (m0 : Meth X.K C (PySem.dunder op.info.2) g) (m : Meth X.K C (dunderR op.info.2) f) (hB : binRB X.K C op.info.2 T = true) (F : FnOk X.prog X.w X.K X.mg X.base CX k f fd ps sp) (hr : Room k X.A) (hb : Binds X.K fd ps []) (hx : Passes CX X E) :
    OpR X (binaryOp op) (rDunR C T sp E) := by
  intro pins s σ H x y v u Q I rx ry h
  obtain ⟨p, dx, fs, rfl, ep, hT, hs⟩ := h
  cases ry
  obtain ⟨od, J⟩ := inst_at I ep
  unfold binRB at hB
  obtain ⟨h1, h2⟩ := ba2 hB
  cases q1 : PySem.W.findIn X.K (.type T) (PySem.dunder op.info.2) with
  | none =>
    rw [q1] at h2
    cases h2
  | some fo =>
    cases q2 : PySem.W.findIn X.K (.type T) (dunderR op.info.2) with
    | none =>
      rw [q1, q2] at h2
      cases h2
    | some ro =>
      rw [q1, q2] at h2
      have h3 : ((fo.isSome && !isSeqSlot fo) || (ro.isSome && !isSeqSlot ro)) = false := (Bool.not_eq_true' _).mp h2
      exact bin_right I.kIn J (hT _ rx) h1 m0.at_ m.at_ m.fn q1 q2 h3 (wpAny_mono (run_fn1 (A' := X.A) rfl F hr hb hx I (.cons (vref _) (.cons rx .nil)) hs) (fun _ _ z => cmp_back z) fun _ _ z => z)
end
end TK
/-! Own toolkit, part v: own operators whose methods may raise, told with the state at hand (in a try). -/
namespace TK
open PySem PySem.Spec PyProof.Rows L2
section
variable {X : Cx} {CX : CXT} {k : Nat} {C f g : Addr} {fd : FuncData} {ps : List Str} {sp : Sp} {E : L2.St → XK} {pins : List (Addr × Obj)} {σ : L2.St} {H : Hp} {s : Shared}
/-- what lets nothing out passes -/
theorem passN : Passes (L2.CX X.prog X.w) X (fun _ _ _ => False) := fun _ _ _ _ _ _ _ h => by
  obtain ⟨_, _, _, _, _, _, _, _, _, _, _, _, z⟩ := h
  exact z.elim
theorem run_at {A' : Around} (hA : A'.frames = X.A.frames) {Q : VK} {us : List Value} {vs : List V} {E : XK} (F : FnOk X.prog X.w X.K X.mg X.base CX k f fd ps sp) (hr : Room k A') (hb : Binds X.K fd ps []) (hx : PassesAt CX X σ E)
    (I : Inv X pins σ H s) (r : Vals vs us) (h : sp vs H Q E) : wpAny (model X.prog X.w) A' (call (.ref f) us) (EP X pins σ Q) X.xe s := by
  have many : (us ++ []).length = ps.length := by rw [List.append_nil, ← r.length]; exact F.len _ _ _ _ h
  have e := I.env0
  have there : Env0 X.prog X.w X.K X.mg X.base A' X.stack s H := ⟨by rw [hA]; exact e.frames, e.mod, e.bs, e.bsz, e.funs, e.frf, e.hok, e.bare⟩
  have bound := hb s us I.kIn many
  rw [List.append_nil] at bound
  refine wpAny_call (codeAny_mono (F.run A' X.stack s H ⟨us, []⟩ us vs Q E hr there bound r h) fun out s' z => ?_)
  cases out with
  | error e => exact hx pins H s e s' I z
  | ok fl =>
    cases fl with
    | ret u => exact I.after z
    | next => exact z.elim
    | brk => exact z.elim
    | cont => exact z.elim
/-- a op b, a's own method, b of a built-in type -/
def tOwnT (C : Addr) (T : String) (sp : Sp) (E : L2.St → XK) (ta tb : TE) : TE := fun σ H Q => ta σ H fun x H1 => tb σ H1 fun y H2 => rDunT C T sp (E σ) x y H2 Q
theorem pe_ownT {op : Operator} {T : String} {a b : Expr} {ta tb : TE} {pos : Pos} (m : Meth X.K C (PySem.dunder op.info.2) f) (hB : binTB X.K C op.info.2 T = true) (F : FnOk X.prog X.w X.K X.mg X.base CX k f fd ps sp) (hr : Room k X.A) (hb : Binds X.K fd ps []) (hx : ∀ σ, PassesAt CX X σ (E σ))
    (ea : PE X a ta) (eb : PE X b tb) : PE X (.BinOp a op b pos) (tOwnT C T sp E ta tb) := by
  refine ⟨fun pins s σ H Q I h => wpAny_BinOp (binT ea eb I h fun v u s2 x y H2 I2 rx ry q => ?_)⟩
  obtain ⟨p, dx, fs, rfl, ep, hT, hs⟩ := q
  cases rx
  obtain ⟨od, J⟩ := inst_at I2 ep
  obtain ⟨m0, hF⟩ := I2.fr
  unfold binTB at hB
  simp only [Bool.and_eq_true, beq_iff_eq] at hB
  obtain ⟨⟨⟨⟨h1, h2⟩, h3⟩, h4⟩, h5⟩ := hB
  obtain ⟨fo, e3⟩ := Option.isSome_iff_exists.mp h3
  obtain ⟨ro, e4⟩ := Option.isSome_iff_exists.mp h4
  obtain ⟨rc, e2, p2⟩ : ∃ rc, PySem.W.findIn X.K (.ref C) (dunderR op.info.2) = some rc ∧ (rc = none ∨ ∃ g : Addr, rc = some (.ref g)) := by
    cases q : PySem.W.findIn X.K (.ref C) (dunderR op.info.2) with
    | none => rw [q] at h2; cases h2
    | some rc =>
      rw [q] at h2
      cases rc with
      | none => exact ⟨_, rfl, .inl rfl⟩
      | some v => cases v <;> first | exact ⟨_, rfl, .inr ⟨_, rfl⟩⟩ | cases h2
  exact PySem.W.ksp_binT hF I2.ok.mod.kin J (hT _ ry) h1 m.at_ m.fn e2 p2 e3 e4 h5 (wpAny_mono (run_at (A' := X.A) rfl F hr hb (hx σ) I2 (.cons (vref _) (.cons ry .nil)) hs) (fun _ _ z => cmp_back z) fun _ _ z => z)
/-- a op b, b's own method, a of a built-in type -/
def tOwnR (C : Addr) (T : String) (sp : Sp) (E : L2.St → XK) (ta tb : TE) : TE := fun σ H Q => ta σ H fun x H1 => tb σ H1 fun y H2 => rDunR C T sp (E σ) x y H2 Q
theorem pe_ownR {op : Operator} {T : String} {a b : Expr} {ta tb : TE} {pos : Pos} (m0 : Meth X.K C (PySem.dunder op.info.2) g) (m : Meth X.K C (dunderR op.info.2) f) (hB : binRB X.K C op.info.2 T = true) (F : FnOk X.prog X.w X.K X.mg X.base CX k f fd ps sp) (hr : Room k X.A) (hb : Binds X.K fd ps []) (hx : ∀ σ, PassesAt CX X σ (E σ))
    (ea : PE X a ta) (eb : PE X b tb) : PE X (.BinOp a op b pos) (tOwnR C T sp E ta tb) := by
  refine ⟨fun pins s σ H Q I h => wpAny_BinOp (binT ea eb I h fun v u s2 x y H2 I2 rx ry q => ?_)⟩
  obtain ⟨p, dx, fs, rfl, ep, hT, hs⟩ := q
  cases ry
  obtain ⟨od, J⟩ := inst_at I2 ep
  unfold binRB at hB
  obtain ⟨h1, h2⟩ := ba2 hB
  cases q1 : PySem.W.findIn X.K (.type T) (PySem.dunder op.info.2) with
  | none =>
    rw [q1] at h2
    cases h2
  | some fo =>
    cases q2 : PySem.W.findIn X.K (.type T) (dunderR op.info.2) with
    | none =>
      rw [q1, q2] at h2
      cases h2
    | some ro =>
      rw [q1, q2] at h2
      have h3 : ((fo.isSome && !isSeqSlot fo) || (ro.isSome && !isSeqSlot ro)) = false := (Bool.not_eq_true' _).mp h2
      exact bin_right I2.kIn J (hT _ rx) h1 m0.at_ m.at_ m.fn q1 q2 h3 (wpAny_mono (run_at (A' := X.A) rfl F hr hb (hx σ) I2 (.cons (vref _) (.cons rx .nil)) hs) (fun _ _ z => cmp_back z) fun _ _ z => z)
/-- ~e -/
def tOwnI (C : Addr) (sp : Sp) (E : L2.St → XK) (ta : TE) : TE := fun σ H Q => ta σ H fun x H1 => rDun1 C sp (E σ) x H1 Q
theorem pe_ownI {a : Expr} {ta : TE} {pos : Pos} (m : Meth X.K C "__invert__" f) (F : FnOk X.prog X.w X.K X.mg X.base CX k f fd ps sp) (hr : Room k X.A) (hb : Binds X.K fd ps []) (hx : ∀ σ, PassesAt CX X σ (E σ)) (ea : PE X a ta) : PE X (.UnaryOp .Invert a pos) (tOwnI C sp E ta) := by
  refine ⟨fun pins s σ H Q I h => UnaryOp_ (thn (ea.run pins s σ H _ I h) fun v s1 ⟨x, H1, I1, rx, q⟩ => ?_)⟩
  obtain ⟨p, dx, fs, rfl, ep, hs⟩ := q
  cases rx
  obtain ⟨od, J⟩ := inst_at I1 ep
  obtain ⟨m0, hF⟩ := I1.fr
  exact PySem.W.ksp_inv hF I1.ok.mod.kin J m.at_ m.fn (run_at (A' := X.A) rfl F hr hb (hx σ) I1 (.cons (vref _) .nil) hs)
/-- x op= e at a local name that holds an own object -/
def tOwnA (C : Addr) (sp : Sp) (E : L2.St → XK) (i : Nat) (te : TE) : TS := fun D σ H => ∃ v, σ[i]? = some (some v) ∧ te σ H fun y H1 => rDun C sp (E σ) v y H1 fun z H2 => D.nx (σ.set i (some z)) H2
theorem ps_ownA {i : Nat} {x : Str} {e : Expr} {te : TE} {op : Operator} {pos pos' : Pos} (m : Meth X.K C (dunderI op.info.2) f) (hc : PySem.W.selfFirst X.K C = true) (F : FnOk X.prog X.w X.K X.mg X.base CX k f fd ps sp) (hr : Room k X.A) (hb : Binds X.K fd ps []) (hx : ∀ σ, PassesAt CX X σ (E σ))
    (hN : X.N.Nodup) (hi : X.N[i]? = some x) (lo : X.env.kindOf x = some .local) (he : PE X e te) (hl : Loc X.env.scope x) (hf : X.fn x = true ∨ X.env.scope.names.lookup x = some .local) : PS X (.AugAssign (.Name x pos') op e pos) (tOwnA C sp E i te) := by
  refine ⟨fun pins s σ H D I h => ?_⟩
  obtain ⟨v, e1, h⟩ := h
  obtain ⟨m1, hn, look⟩ := I.loc
  obtain ⟨u, r, l⟩ := look i x v hi e1 (.inl lo)
  have hm : m1 x = some u := by
    rcases l with ⟨_, z⟩ | ⟨kk, _⟩
    · exact z
    · rw [lo] at kk
      rcases kk with z | z <;> cases z
  refine wpAny_AugAssign_Name (wpAny_loadName_local I.ok.kind lo hn hm (thn (he.run pins s σ H _ I h) fun w s1 ⟨y, H1, I1, r1, q⟩ => ?_))
  obtain ⟨p, dx, fs, rfl, ep, hs⟩ := q
  cases r
  obtain ⟨od, J⟩ := inst_at I1 ep
  obtain ⟨m0, hF⟩ := I1.fr
  refine PySem.W.ksp_inplace hF I1.ok.mod.kin J hc m.at_ m.fn (wpAny_mono (run_at (A' := X.A) rfl F hr hb (hx σ) I1 (.cons (vref _) (.cons r1 .nil)) hs) (fun z s2 q => ?_) fun _ _ z => z)
  have back : PySem.W.CmpBack (fun t s' => EP X pins σ (fun z H2 => D.nx (σ.set i (some z)) H2) t s') z s2 := cmp_back q
  have post : ∀ {t : Value} {s' : Shared}, EP X pins σ (fun z H2 => D.nx (σ.set i (some z)) H2) t s' → wpAny (model X.prog X.w) X.A (storeName X.env x t) (fun _ => SP X pins D .next) X.xe s' := fun {t s'} q => by
    obtain ⟨zv, H2, I2, r2, q2⟩ := q
    exact store_ok I2 hN hi hl r2 (fun s3 I3 => ⟨_, H2, I3, q2⟩) hf
  cases z <;> first | exact post back | exact back.elim
end
end TK
/-! Own toolkit, part w: for over a list or a tuple, told apart by the reading; doubled texts. -/
namespace TK
open PySem PySem.Spec PyProof.Rows L2
section
variable {X : Cx} {tg e : Expr} {te : TE}
/-- for x in e: e a list or a tuple -/
def iSeq (K : PySem.W.Frag) (te : TE) : TI := fun σ H R => te σ H fun x H1 => ∃ a, x = .ref a ∧ (((∃ xs, SqL K H1 a xs) ∧ R (Itl K a) H1) ∨ ((∃ xs, SqT K H1 a xs) ∧ R (Itt K a) H1))
theorem pi_seq (he : PE X e te) : PI X tg e (iSeq X.K te) := by
  refine ⟨fun pins s σ H R I h => thn (he.run pins s σ H _ I h) fun v s1 ⟨x, H1, I1, r1, a, ea, q⟩ => ?_⟩
  subst ea
  cases r1
  have apart : ∀ b ∈ [s1.heap.objs.size], FpOk X pins H1 b := fun b hb => by
    cases List.mem_singleton.mp hb
    exact I1.fpOk (Nat.le_refl _) (I1.hok.fresh (Nat.le_refl _))
  rcases q with ⟨⟨xs, hq⟩, q⟩ | ⟨⟨xs, hq⟩, q⟩
  · obtain ⟨its, rv, pl, hz⟩ := I1.list hq
    exact wpAny_pyIter_list pl.isList ⟨_, [_], _, _, H1, rfl, I1.kept (t' := s1.toks) fun b o z => Heap.get?_push_of_some _ z, turn_list a _, ⟨_, Heap.get?_push_size _ rfl, rfl, rfl⟩, apart, q⟩
  · obtain ⟨its, rv, pl, hz⟩ := I1.tuple hq
    exact wpAny_pyIter_tuple (show s1.heap.IsTuple a its.toArray from pl) ⟨_, [_], _, _, H1, rfl, I1.kept (t' := s1.toks) fun b o z => Heap.get?_push_of_some _ z, turn_tuple a _, ⟨_, Heap.get?_push_size _ rfl, rfl, rfl⟩, apart, q⟩
end
theorem diff_iff (xs : List Str) : ∀ i, i ≤ xs.length → (diff xs i = i ↔ (xs.take i).Nodup)
  | 0, _ => by simp [diff]
  | i + 1, h => by
    have ih := diff_iff xs i (by omega)
    have le := diff_le xs i
    have lt : i < xs.length := h
    have e : xs.take (i + 1) = xs.take i ++ [xs[i]] := by rw [List.take_succ, List.getElem?_eq_getElem lt]; rfl
    have g : xs.getD i Str.empty = xs[i] := by rw [List.getD_eq_getElem?_getD, List.getElem?_eq_getElem lt]; rfl
    have anyq : ((xs.take i).any (· == xs[i])) = true ↔ xs[i] ∈ xs.take i := by
      rw [List.any_eq_true]
      exact ⟨fun ⟨y, hy, z⟩ => eq_of_beq z ▸ hy, fun z => ⟨_, z, beq_self_eq_true _⟩⟩
    rw [e]
    unfold diff
    rw [g]
    have nd : (xs.take i ++ [xs[i]]).Nodup ↔ (xs.take i).Nodup ∧ xs[i] ∉ xs.take i := by
      rw [List.nodup_append]
      constructor
      · intro ⟨h1, _, h3⟩
        exact ⟨h1, fun z => h3 _ z _ (List.mem_singleton.mpr rfl) rfl⟩
      · intro ⟨h1, h2⟩
        refine ⟨h1, List.pairwise_singleton _ _, fun a ha b hb => ?_⟩
        cases List.mem_singleton.mp hb
        exact fun z => h2 (z ▸ ha)
    rw [nd]
    split
    · rename_i q
      have m := anyq.mp q
      constructor
      · intro z
        omega
      · intro z
        exact (z.2 m).elim
    · rename_i q
      have m : xs[i] ∉ xs.take i := fun z => q (anyq.mpr z)
      constructor
      · intro z
        exact ⟨ih.mp (by omega), m⟩
      · intro z
        rw [ih.mpr z.1]
theorem diff_lt (xs : List Str) : diff xs xs.length < xs.length ↔ ¬ xs.Nodup := by
  have a := diff_iff xs xs.length (Nat.le_refl _)
  have b := diff_le xs xs.length
  rw [List.take_length] at a
  rw [← a]
  omega
end TK
/-! Own toolkit, part q: isinstance of a caught own error, with fields or without. -/
namespace TK
open PySem PySem.Spec PyProof.Rows L2 PySem.W
/-- isinstance(e, c), e the caught error at a, its class cls, its dict dd if it has one -/
def rIsE (K : PySem.W.Frag) (a : Addr) (cls : Value) (dd : Option Addr) : List V → Hp → VK → Prop := fun xs H Q => ∃ (D : Addr) (c : V) (cv : Value) (b : Bool), cls = .ref D ∧ ExcC K D ∧ xs = [.ref a, c] ∧ ClsV c cv ∧
  PySem.W.kitOne K (.ref D) cv = some b ∧ (dd = none ∨ ∃ (d : Addr) (fs : List (Str × V)), dd = some d ∧ H d = some (.xd fs)) ∧ Q (.bl b) H
theorem call_isE {X : Cx} {a : Addr} {cls : Value} {dd : Option Addr} {oe : Obj} {pn : List (Addr × Obj)} (hz : Zc cls dd oe) (hf : ∃ vs, oe.data = .fields vs) : CallR (X.suite a ((a, oe) :: pn)) (.builtin "isinstance") (rIsE X.K a cls dd) := by
  intro pins s σ H xs us Q I r h
  obtain ⟨D, c, cv, b, rfl, T, rfl, hcv, e, hd, q⟩ := h
  obtain ⟨u1, u2, rfl, r1, r2⟩ : ∃ u1 u2, us = [u1, u2] ∧ RelV (.ref a) u1 ∧ RelV c u2 := by
    cases r with
    | cons r1 rr => cases rr with
      | cons r2 rr => cases rr; exact ⟨_, _, rfl, r1, r2⟩
  obtain rfl : u1 = Value.ref a := r1
  obtain rfl := hcv.eq r2
  obtain ⟨here, _⟩ := I.pin (a, oe) (List.mem_append.mpr (.inl List.mem_cons_self))
  obtain ⟨vs, hv⟩ := hf
  have plain : PySem.W.notCls oe = true := by unfold PySem.W.notCls; rw [hv] <;> rfl
  obtain ⟨od, J⟩ : ∃ od, InstAt s.heap a oe D od := by
    rcases hd with rfl | ⟨d, fs, rfl, hx⟩
    · exact ⟨none, here, hz.1, plain, by rw [hz.2]; exact trivial⟩
    · obtain ⟨mA, hns, _⟩ := (show ObjOk X.prog X.w H s.heap d (.xd fs) from I.hok d _ hx)
      obtain ⟨od, ho, _⟩ := lookIn_ns hns
      exact ⟨some od, here, hz.1, plain, by rw [hz.2]; exact ho⟩
  exact PySem.W.kia_one (kitx_excD (ox := oe) T) I.kIn ⟨_, J⟩ e (fun z => nomatch z) fun tk => ⟨.bl b, H, I.kept (t' := tk) fun _ _ z => z, rfl, q⟩
end TK
/-! Own toolkit, part l: sorted(names, key=lambda x: self.f.index(x)), names a list or a tuple of texts. -/
namespace TK
open PySem PySem.Spec PyProof.Rows L2 LamX PySem.SeqAt
abbrev RStr : Value → Str → Prop := fun v x => ∃ t, v = .str x t
theorem each_of : ∀ {xs : List Str} {us : List Value}, Vals (xs.map V.str) us → PySem.W.EachIs RStr us xs
  | [], _, .nil => .nil
  | x :: xs, _, .cons r t => .cons r (each_of t)
theorem vals_of_each : ∀ {xs : List Str} {us : List Value}, PySem.W.EachIs RStr us xs → Vals (xs.map V.str) us
  | [], _, .nil => .nil
  | x :: xs, _, .cons r t => .cons r (vals_of_each t)
theorem strs_eq {A : Around} {s : Shared} {xs : List Str} {us : List Value} {z : Str} {t : Tok} (r : Vals (xs.map V.str) us) : ItemsEq A s us xs (.str z t) z := by
  have hl : us.length = xs.length := by rw [← r.length, List.length_map]
  refine ⟨hl, fun j h1 h2 => ?_⟩
  obtain ⟨u, hu, tu, ru⟩ := r.get (i := j) (x := .str xs[j]) (by rw [List.getElem?_map, List.getElem?_eq_getElem h2]; rfl)
  have e : us[j] = .str xs[j] tu := by
    have := (List.getElem?_eq_some_iff.mp hu).2
    rw [this, ru]
  rw [e]
  have q := EqAt.str_str (A := A) (s := s) xs[j] tu z t
  have e2 : (xs[j] == z) = decide (xs[j] = z) := by
    by_cases h : xs[j] = z
    · rw [h]; simp
    · rw [decide_eq_false h]; exact beq_eq_false_iff_ne.mpr h
  rw [e2] at q
  exact q
/-- what the lambda reads: the instance in its cell -/
structure LamAt (K : PySem.W.Frag) (h : Heap) (cl : List (Str × Addr)) (sf fl : Str) (p C dx t : Addr) (mA : Str → Option Value) (its : List Value) (ys : List Str) : Prop where
  cell : ∃ c, cl.lookup sf = some c ∧ h.IsCell c (some (.ref p))
  obj : ObjM h p dx C mA
  cls : Cls K C
  no : NoAttr K C fl
  at_ : mA fl = some (.ref t)
  tup : ∃ o n, h.get? t = some o ∧ o.dict = none ∧ o.cls = .type "tuple" ∧ o.data = .seq its.toArray n
  vals : Vals (ys.map V.str) its
/-- its text -/
structure LamT (params : Arguments) (scope : Scope) (sf x : Str) : Prop where
  kind : scope.kind = .function
  co : scope.isCoroutine = false
  gen : scope.isGenerator = false
  nocell : ∀ y ∈ scope.names, y.2 ≠ .cell
  px : scope.names.lookup x = some .local
  ps : scope.names.lookup sf = some .free
  bind : ∀ (q : Str) (body : Expr) (cl : List (Str × Addr)) (pm cv ctv v : Value), bindArgs (PySem.W.kla_fn "<lambda>" q params body scope cl pm cv ctv) ⟨[v], []⟩ = pure [(x, v)]
  dx : (x == ("__debug__" : Str)) = false
  ds : (sf == ("__debug__" : Str)) = false
  dc : (sf == ("__classdict__" : Str)) = false
section
variable {P : Program} {w : World} {K : PySem.W.Frag} {A : Around} {s : Shared}
theorem lam_run {q sf fl x z : Str} {params : Arguments} {scope : Scope} {f c' p C dx t : Addr} {pm ctv : Value} {cl : List (Str × Addr)} {mA : Str → Option Value} {its : List Value} {ys : List Str} {tz : Tok} {p1 p2 p3 p4 p5 : Pos}
    (KI : K.In s.heap) (ho : s.heap.get? f = some (PySem.W.kla_obj "<lambda>" q params (.Call (.Attribute (.Attribute (.Name sf p1) fl p2) "index" p3) [.Name x p4] [] p5) scope cl pm c' ctv)) (hcd : s.heap.CodeRec (.ref c') q) (lim : s.heap.NoLimit)
    (L : LamT params scope sf x) (R : LamAt K s.heap cl sf fl p C dx t mA its ys) (hz : z ∈ ys) (hroom : A.depth < recursionLimit) (hl : (p3.endLine == p5.line) = true) :
    wpAny (model P w) A (call (.ref f) [.str z tz]) (PySem.W.KeyPure (.int (ys.idxOf z : Nat)) s) (fun _ _ => False) s := by
  obtain ⟨c, hc, hcell⟩ := R.cell
  refine wpAny_call (PySem.W.kla_callFunE hroom ho rfl L.co L.gen rfl hcd ?_)
  rw [L.bind]
  refine wpAny_pure (wpAny_newFunctionEnv L.nocell (fun y hy => ?_) (fun h₁ hns hsb => ⟨lim.fresh _ hsb, PySem.W.kla_codeExpr ?_⟩) L.kind)
  · cases List.mem_singleton.mp hy
    exact L.px
  have kp : ∀ b o, s.heap.get? b = some o → h₁.get? b = some o := fun b o e => hsb.extBut b o (Nat.ne_of_lt (Heap.lt_size e)) (Heap.get?_push_of_some _ e)
  have KI1 : K.In h₁ := KI.keeps kp
  have O1 : ObjM h₁ p dx C mA := ⟨kp _ _ R.obj.obj, R.obj.ns.keeps kp, R.obj.ne⟩
  obtain ⟨ot, nt, ht1, ht0, ht2, ht3⟩ := R.tup
  have T1 : h₁.IsTuple t its.toArray := ⟨ot, kp _ _ ht1, ht2, nt, ht3⟩
  have cell1 : h₁.IsCell c (some (.ref p)) := by
    obtain ⟨oc, h1, h2⟩ := hcell
    exact ⟨oc, kp _ _ h1, h2⟩
  refine wpAny_Call_method_late rfl rfl hl rfl ?_
  refine attr_of rfl (wpAny_Name (wpAny_loadName_free L.kind L.ps hc cell1 ?_ L.dc) L.ds)
  refine get_map KI1 O1 (R.cls.get fl) R.cls.hd R.no R.at_ rfl ?_
  refine ⟨"tuple", "tuple.index", PySem.F.plainAttrs_tuple, PySem.F.slot_tuple_index, PySem.F.type_tuple_index, ⟨ot, kp _ _ ht1, ht2⟩, fun a e => ?_, ?_⟩
  · cases e
    exact ⟨ot, kp _ _ ht1, ht0⟩
  refine Calls.callWith_builtin rfl (Calls.evalArgs_plain (Calls.spliced_cons ?_))
  refine wpAny_Name (wpAny_loadName_local (v := .str z tz) L.kind L.px hns (by simp) ?_) L.dx
  refine Calls.spliced_nil (call_tuple_index T1 (strs_eq R.vals) hz ?_)
  exact ⟨h₁, _, rfl, kp, .int _ _⟩
end
/-- a tuple that bears no dict -/
def PTup (H : Hp) (t : Addr) (xs : List V) : Prop := ∃ o : Obj, o.dict = none ∧ H t = some (.frz o (.tup xs))
theorem PTup.ext {H H' : Hp} {t : Addr} {xs : List V} (p : PTup H t xs) (e : ExtN H H') : PTup H' t xs := let ⟨o, h1, h2⟩ := p; ⟨o, h1, e _ _ h2 fun ps z => by cases z⟩
theorem PTup.keep {H H' : Hp} {t : Addr} {xs : List V} (p : PTup H t xs) (e : Same H H') : PTup H' t xs := let ⟨o, h1, h2⟩ := p; ⟨o, h1, e _ _ h2⟩
theorem PTup.sq {K : PySem.W.Frag} {H : Hp} {t : Addr} {xs : List V} (p : PTup H t xs) : SqT K H t xs := let ⟨o, _, h2⟩ := p; .inl (.inr ⟨o, h2⟩)
theorem sqL_ext {K : PySem.W.Frag} {H H' : Hp} {a : Addr} {xs : List V} (p : SqL K H a xs) (e : ExtN H H') : SqL K H' a xs := by
  rcases p with (p | ⟨o, p⟩) | p
  · exact .inl (.inl (e _ _ p fun ps z => by cases z))
  · exact .inl (.inr ⟨o, e _ _ p fun ps z => by cases z⟩)
  · exact .inr p
theorem sqT_ext {K : PySem.W.Frag} {H H' : Hp} {a : Addr} {xs : List V} (p : SqT K H a xs) (e : ExtN H H') : SqT K H' a xs := by
  rcases p with (p | ⟨o, p⟩) | p
  · exact .inl (.inl (e _ _ p fun ps z => by cases z))
  · exact .inl (.inr ⟨o, e _ _ p fun ps z => by cases z⟩)
  · exact .inr p
section
variable {X : Cx}
def tSortL (K : PySem.W.Frag) (T : List (Addr × Str)) (i : Nat) (fl : Str) (te : TE) : TE := fun σ H Q => te σ H fun v H1 => ∃ (a p C dx t : Addr) (fs : List (Str × V)) (xs ys : List Str), v = .ref a ∧ (SqL K H1 a (xs.map V.str) ∨ SqT K H1 a (xs.map V.str)) ∧
  σ[i]? = some (some (.ref p)) ∧ H1 p = some (.ins C dx fs) ∧ Cls K C ∧ NoAttr K C fl ∧ fs.lookup fl = some (.ref t) ∧ PTup H1 t (ys.map V.str) ∧ (∀ x ∈ xs, x ∈ ys) ∧ Tabs T H1 ∧
  ∀ H2, ExtN H1 H2 → Tabs T H2 → ∀ D, H2 D = none → Q (.ref D) (upd H2 D (.lst ((xs.mergeSort fun a b => decide (((ys.idxOf a : Nat) : Int) ≤ ((ys.idxOf b : Nat) : Int))).map V.str)))
theorem sort_end {pins : List (Addr × Obj)} {σ : L2.St} {H : Hp} {s : Shared} {Q : VK} {a p C dx t f c' c : Addr} {fs : List (Str × V)} {xs ys : List Str} {params : Arguments} {scope : Scope} {sf x fl : Str} {p1 p2 p3 p4 p5 : Pos} {pm ctv : Value} {q : Str} {cl : List (Str × Addr)} {k : Nat}
    (hr : Room (k + 2) X.A) (L : LamT params scope sf x) (hl : (p3.endLine == p5.line) = true) (I : Inv X pins σ H s) (ho : s.heap.get? f = some (PySem.W.kla_obj "<lambda>" q params (.Call (.Attribute (.Attribute (.Name sf p1) fl p2) "index" p3) [.Name x p4] [] p5) scope cl pm c' ctv))
    (hco : H c' = some (CodeO c' q)) (hc : cl.lookup sf = some c) (hcell : s.heap.IsCell c (some (.ref p))) (hs : SqL X.K H a (xs.map V.str) ∨ SqT X.K H a (xs.map V.str)) (hp : H p = some (.ins C dx fs)) (hC : Cls X.K C) (hn : NoAttr X.K C fl)
    (hf : fs.lookup fl = some (.ref t)) (ht : PTup H t (ys.map V.str)) (hxy : ∀ x ∈ xs, x ∈ ys)
    (h : ∀ D, H D = none → Q (.ref D) (upd H D (.lst ((xs.mergeSort fun a b => decide (((ys.idxOf a : Nat) : Int) ≤ ((ys.idxOf b : Nat) : Int))).map V.str)))) :
    wpAny (model X.prog X.w) X.A (call (.builtin "sorted") [.ref a] [(Str.ofString "key", .ref f)]) (EP X pins σ Q) X.xe s := by
  obtain ⟨mA, O, rO, _, _, _⟩ := ins_get I.hok hp
  obtain ⟨u, hu, ru⟩ := RelO.some_of (v := .ref t) (o := mA fl) (by rw [← hf]; exact rO fl)
  cases ru
  obtain ⟨ot, hd, e0⟩ := ht
  obtain ⟨e1, e2⟩ := I.hok t _ e0
  obtain ⟨_, itsT, rT, o2, e3, hcl, nT, hdT⟩ := e2
  rw [e1] at e3
  cases e3
  have hcd := NdefX.codeO_at I.hok hco
  -- the list or tuple that is sorted
  obtain ⟨T0, o, its, n, hT, ho2, hc2, hd2, r, hz⟩ : ∃ (T0 : String) (o : Obj) (its : List Value) (n : Nat), (T0 = "list" ∨ T0 = "tuple") ∧ s.heap.get? a = some o ∧ o.cls = .type T0 ∧ o.data = .seq its.toArray n ∧ Vals (xs.map V.str) its ∧ its.length ≤ sizeLine := by
    rcases hs with hs | hs
    · obtain ⟨its, r, ⟨o, n, h1, h2, h3, h4⟩, z⟩ := I.list hs
      exact ⟨"list", o, its, n, .inl rfl, h1, h2, h4, r, by rw [← r.length]; exact z⟩
    · obtain ⟨its, r, ⟨o, h1, h2, n, h4⟩, z⟩ := I.tuple hs
      exact ⟨"tuple", o, its, n, .inr rfl, h1, h2, h4, r, by rw [← r.length]; exact z⟩
  have hlen : its.length = xs.length := by rw [← r.length, List.length_map]
  refine PyProof.Rows.call_function_entry_kw (ha := ksk_s1 _ _) PyProof.Rows.kind_sorted PyProof.Rows.plain_sorted (b := Builtin.«sorted») PyProof.Rows.entry_sorted ?_
  unfold Builtin.«sorted»
  refine wpAny_bind (m := checkCount "sorted" 1 1 _) (wpAny_pure ?_)
  refine wpAny_bind (wpAny_collect_seq a hT ho2 hc2 hd2 (fun g kg => ?_) (by rw [List.size_toArray]; exact hz))
  have I3 := I.kept (t' := s.toks) kg
  refine wpAny_bind (PySem.wpAny_newList ?_ hz)
  show wpAny _ _ _ _ _ { s with heap := g.push (PyProof.Rows.seqObj "list" its.toArray 0) }
  have atD : (g.push (PyProof.Rows.seqObj "list" its.toArray 0)).get? g.objs.size = some (PyProof.Rows.seqObj "list" its.toArray 0) := Heap.get?_push_size _ rfl
  have up : ∀ b o, g.get? b = some o → b ≠ g.objs.size ∧ (g.push (PyProof.Rows.seqObj "list" its.toArray 0)).get? b = some o := fun b o e => ⟨Nat.ne_of_lt (Heap.lt_size e), Heap.get?_push_of_some _ e⟩
  refine wpAny_bind (wpAny_holding (PyProof.Rows.wpAny_call_entry_kw (ha := ksk_l1 _ _) PyProof.Rows.slot_list_sort ⟨_, atD, rfl⟩ PyProof.Rows.entry_list_sort ?_))
  show wpAny (model X.prog X.w) X.A.in1.in1 (Builtin.«list.sort» ⟨[.ref g.objs.size], [(Str.ofString "key", .ref f)]⟩) _ _ _
  rw [ksk_t1]
  have hd1 : X.A.in1.in1.depth < recursionLimit := hr.in1.in1.depth
  have hun : X.A.in1.in1.units + 64 < cLine := hr.in1.in1.units
  refine PySem.W.keyH_tree (b := false) (kz := xs.map fun y => PyData.int ((ys.idxOf y : Nat) : Int)) atD (by rw [List.length_map]; exact hlen.symm) hz ?al ?so ?un (fun i v d hv hkd g2 tk kp => ?turn) (fun h' tk out cc kp hD ko => ?fin)
  case al =>
    intro d hd d' hd'
    obtain ⟨_, _, rfl⟩ := List.mem_map.mp hd
    obtain ⟨_, _, rfl⟩ := List.mem_map.mp hd'
    rfl
  case so => exact PySem.W.Sortable.others fun b => ⟨nofun, fun _ => nofun⟩
  case un =>
    intro d hd
    obtain ⟨_, _, rfl⟩ := List.mem_map.mp hd
    show X.A.in1.in1.units + 0 < cLine
    omega
  case turn =>
    rw [List.getElem?_map] at hkd
    obtain ⟨z, hz1, rfl⟩ := Option.map_eq_some_iff.mp hkd
    obtain ⟨u, hu1, tz, rfl⟩ := r.get (i := i) (x := .str z) (by rw [List.getElem?_map, hz1]; rfl)
    rw [hv] at hu1
    cases hu1
    have all : ∀ b o, s.heap.get? b = some o → g2.get? b = some o := fun b o e => kp b o (up b o (kg b o e)).1 (up b o (kg b o e)).2
    exact lam_run (s := { s with heap := g2, toks := tk }) (I.kIn.keeps all) (all _ _ ho) (hcd.keeps all) (I.nolimit.keeps all) L
      ⟨⟨c, hc, let ⟨oc, h1, h2⟩ := hcell; ⟨oc, all _ _ h1, h2⟩⟩, ⟨all _ _ O.obj, O.ns.keeps all, O.ne⟩, hC, hn, hu, ⟨ot, nT, all _ _ e1, hd, hcl, hdT⟩, rT⟩ (hxy z (List.mem_of_getElem? hz1)) hd1 hl
  case fin =>
    have ev := PySem.W.keyedOut_each (fun y => PyData.int ((ys.idxOf y : Nat) : Int)) ko (each_of r)
    rw [PySem.W.dataLe_int] at ev
    have rv := vals_of_each ev
    have hlen2 : ((xs.mergeSort fun a b => decide (((ys.idxOf a : Nat) : Int) ≤ ((ys.idxOf b : Nat) : Int))).map V.str).length ≤ sizeLine := by
      rw [List.length_map, List.length_mergeSort, ← hlen]
      exact hz
    have I4 := I3.laid (a := g.objs.size) (o := .lst ((xs.mergeSort fun a b => decide (((ys.idxOf a : Nat) : Int) ≤ ((ys.idxOf b : Nat) : Int))).map V.str)) (h' := h') (t' := tk) (fun b o e => kp b o (up b o e).1 (up b o e).2) (Nat.le_refl _) ⟨hlen2, out, cc, rv, hD⟩
    exact ⟨.none, rfl, wpAny_pure ⟨_, rfl, .ref g.objs.size, _, I4, rfl, h _ (I3.hok.fresh (Nat.le_refl _))⟩⟩
/-- sorted(e, key=lambda x: sf.fl.index(x)) -/
theorem pe_sortL {T : List (Addr × Str)} {c P : Addr} {k i : Nat} {nm : Str} {te : TE} {params : Arguments} {scope : Scope} {sf x fl : Str} {p0 p1 p2 p3 p4 p5 kpos lpos p pos : Pos} (hg : Gl X "sorted") (hm : X.mg "sorted" = none) (he : PE X (.Name nm p0) te) (hr : Room (k + 2) X.A)
    (TB : TabB X.base X.mg c P) (hcode : X.env.code = .ref c) (hmT : (P, X.env.qual ++ "<lambda>") ∈ T) (hu : ∀ p ∈ T, p.1 = P → p.2 = X.env.qual ++ "<lambda>") (hN : X.N[i]? = some sf) (hsf : X.env.scope.names.lookup sf = some .cell) (L : LamT params scope sf x)
    (hdef : defaultsOf params X.env = ([], [])) (hfr : ∀ y ∈ scope.names, y.2 = .free → y.1 = sf) (hl : (p3.endLine == p5.line) = true) :
    PE X (.Call (.Name "sorted" p) [.Name nm p0] [⟨some "key", .Lambda params (.Call (.Attribute (.Attribute (.Name sf p1) fl p2) "index" p3) [.Name x p4] [] p5) scope lpos, kpos⟩] pos) (tSortL X.K T i fl te) := by
  refine ⟨fun pins s σ H Q I h => ?_⟩
  have hcells : ∀ y ∈ scope.names, y.2 = .free → ∃ c, X.env.cells.lookup y.1 = some c := fun y hy e => by
    rw [hfr y hy e]
    exact I.ok.has _ (.inl hsf)
  refine wpAny_Call_Name_kw (ld_blt I hg hm (by rfl) ?_ (by decide) (by decide))
  refine PyProof.Rows.callWith_kw (thn ((pa_cons he pa_nil).run pos pins s σ H (fun vs H1 => match vs with
    | [v] => ∃ (a p C dx t : Addr) (fs : List (Str × V)) (xs ys : List Str), v = .ref a ∧ (SqL X.K H1 a (xs.map V.str) ∨ SqT X.K H1 a (xs.map V.str)) ∧
      σ[i]? = some (some (.ref p)) ∧ H1 p = some (.ins C dx fs) ∧ Cls X.K C ∧ NoAttr X.K C fl ∧ fs.lookup fl = some (.ref t) ∧ PTup H1 t (ys.map V.str) ∧ (∀ x ∈ xs, x ∈ ys) ∧ Tabs T H1 ∧
      ∀ H2, ExtN H1 H2 → Tabs T H2 → ∀ D, H2 D = none → Q (.ref D) (upd H2 D (.lst ((xs.mergeSort fun a b => decide (((ys.idxOf a : Nat) : Int) ≤ ((ys.idxOf b : Nat) : Int))).map V.str)))
    | _ => False) I h) fun us s1 ⟨vs, H1, I1, r1, q1⟩ => ?_) rfl rfl rfl rfl
  obtain ⟨v, rfl⟩ : ∃ v, vs = [v] := by
    match vs, q1 with
    | [v], _ => exact ⟨v, rfl⟩
  obtain ⟨a, p, C, dx, t, fs, xs, ys, rfl, hs, hσ, hp, hC, hn, hf, ht, hxy, hT, k⟩ := q1
  obtain rfl := Vals.ref1 r1
  show wpAny _ _ (evalAll [do let v ← eval (.Lambda params (.Call (.Attribute (.Attribute (.Name sf p1) fl p2) "index" p3) [.Name x p4] [] p5) scope lpos) X.env; standAt pos; pure v]) _ _ s1
  refine wpAny_evalAll_cons (wpAny_bind (lam_make2 I1 TB hcode hmT hu hT hdef hcells fun f c' pm ctv H2 s2 I2 eN T2 hfo hfn hfr2 hco => wpAny_bind (wpAny_standAt (wpAny_pure (wpAny_evalAll_nil ?_)))))
  obtain ⟨m, hns, hloc⟩ := I2.loc
  obtain ⟨u, ru, lk⟩ := hloc i sf _ hN hσ (.inr (.inl hsf))
  cases ru
  obtain ⟨c0, hc0, hc1⟩ : ∃ c0, X.env.cells.lookup sf = some c0 ∧ s2.heap.IsCell c0 (some (.ref p)) := by
    rcases lk with ⟨z, _⟩ | ⟨_, c0, h1, h2⟩
    · have z : X.env.scope.names.lookup sf = some .local := z
      rw [hsf] at z
      cases z
    · exact ⟨c0, h1, h2⟩
  exact sort_end hr L hl I2 hfo hco (NdefX.clo_has hcells (PySem.mem_of_lookup L.ps) hc0) hc1 (hs.imp (fun z => sqL_ext z eN) fun z => sqT_ext z eN) (eN _ _ hp fun ps z => by cases z) hC hn hf (ht.ext eN) hxy fun D nD => k H2 eN T2 D nD
/-- tuple(e): a new one bears no dict -/
theorem call_tuple_ofF : CallR X (.type "tuple") (fun xs H Q => ∃ p ys, xs = [.ref p] ∧ ((SqL X.K H p ys ∧ ∀ (l : Addr) (o : Obj), o.dict = none → H l = none → Q (.ref l) (upd H l (.frz o (.tup ys)))) ∨ (SqT X.K H p ys ∧ Q (.ref p) H))) := by
  intro pins s σ H xs us Q I r h
  obtain ⟨p, ys, rfl, h⟩ := h
  obtain rfl := Vals.ref1 r
  rcases h with ⟨hs, q⟩ | ⟨hs, q⟩
  · obtain ⟨its, rv, pl, hz⟩ := I.list hs
    have hz2 : its.length ≤ sizeLine := by rw [← rv.length]; exact hz
    refine call_tuple_list pl.isList (fun h' kp => ?_) (by rw [List.size_toArray]; exact hz2)
    have J := I.kept (t' := s.toks) kp
    have at_ : (h'.push ({ cls := .type "tuple", data := .seq its.toArray } : Obj)).get? h'.objs.size = some ({ cls := .type "tuple", data := .seq its.toArray } : Obj) := Heap.get?_push_size _ rfl
    have J2 := J.laid (a := h'.objs.size) (o := .frz { cls := .type "tuple", data := .seq its.toArray } (.tup ys)) (t' := s.toks) (fun b o e => Heap.get?_push_of_some ({ cls := .type "tuple", data := .seq its.toArray } : Obj) e) (Nat.le_refl _) ⟨at_, hz, its, rv, IsTup.new _ _⟩
    exact ⟨.ref h'.objs.size, _, J2, rfl, q _ _ rfl (J.hok.fresh (Nat.le_refl _))⟩
  · obtain ⟨its, rv, pl, hz⟩ := I.tuple hs
    exact call_tuple_same pl ⟨.ref p, H, I, rfl, q⟩
end
section
variable {P : Program} {w : World} {K : PySem.W.Frag} {mg : Str → Option Value} {base : Heap} {x qual : Str} {params : Arguments} {body : List Stmt} {scope : Scope} {dvs : List V} {kws : List (Str × V)} {f : Addr} {fd : FuncData}
/-- the rule for a def, its code object told -/
theorem fun_okC {CX : CXT} {N ps : List Str} {k : Nat} {sp : Sp} (F : FunD K x qual params body scope dvs kws f fd) (S : FnScope N ps scope) (len : ∀ vs H Q E, sp vs H Q E → vs.length = ps.length)
    (hb : ∀ (A : Around) (outer : List Env) (s : Shared) (H : Hp) (vs : List V) (Q : VK) (E : XK), Room k (A.deeper (envOfC qual scope s.heap.objs.size f fd.code)) → sp vs H Q E →
      ∃ t, PSs (cxOf CX P w K mg base N qual scope f fd.code A outer s H E) body t ∧ t { nx := fun _ H' => Q .non H', rt := Q } (L2.start N vs) H) : FnOk P w K mg base CX (k + 1) f fd ps sp := by
  obtain ⟨_, _, _, _, _, _, _, _, _, _, rfl, lk, hcd, _, _⟩ := F.ex
  exact fn_of lk hcd S len hb
end
end TK
/-! Own toolkit, part o: what the top has left, with the code object of one def whose lambda is made, and its table. -/
namespace TK
open PySem PySem.Spec PyProof.Rows L2 LamX
abbrev At : Type := Str × Option Str
def codeA (K : PySem.W.Frag) (p : At) : Addr := match (fdOf K p).code with
  | .ref c => c
  | _ => 0
/-- the table of the code object there -/
def tabA (g : Addr → Option Obj) (c : Addr) : Addr := match g c with
  | some ⟨_, _, .fields vs, _⟩ => (match (vs[11]? : Option Value) with
    | some (.ref P) => P
    | _ => 0)
  | _ => 0
/-- what is read, but that table -/
def asT (g : Addr → Option Obj) (n : Nat) (p : At) : List Addr := (asN g n).filter fun a => !(a == tabA g (codeA (He.frG g (asN g n)) p))
def emptyB : Option Obj → Bool
  | some ⟨.none, none, .fields vs, sl⟩ => vs.isEmpty && sl.isEmpty
  | _ => false
theorem emptyB_ok {o : Option Obj} (h : emptyB o = true) : o = some { cls := .none, data := .fields #[] } := by
  cases o with
  | none => cases h
  | some o =>
    obtain ⟨cls, dict, data, sl⟩ := o
    cases cls <;> cases dict <;> cases data <;> first | cases h | skip
    rename_i vs
    obtain ⟨h1, h2⟩ := ba2 (show (vs.isEmpty && sl.isEmpty) = true from h)
    rw [Array.isEmpty_iff.mp h1, Array.isEmpty_iff.mp h2]
def tabB (g : Addr → Option Obj) (K : PySem.W.Frag) (p : At) : Bool := match (fdOf K p).code with
  | .ref c => PySem.W.codeHdIn (He.frG g [c, tabA g c]) c (tabA g c) && ((K.lookup (tabA g c)).isNone && emptyB (g (tabA g c)))
  | _ => false
/-- what is known of it -/
structure CodeT (K : PySem.W.Frag) (h : Heap) (p : At) (c P : Addr) : Prop where
  code : (fdOf K p).code = .ref c
  hd : PySem.W.CodeHd h c P
  tab : h.get? P = some { cls := .none, data := .fields #[] }
  free : K.lookup P = none
theorem tabB_ok {h : Heap} {K : PySem.W.Frag} {p : At} (e : tabB h.get? K p = true) : ∃ c P, CodeT K h p c P := by
  unfold tabB at e
  split at e
  · rename_i c hc
    obtain ⟨h1, h2⟩ := ba2 e
    obtain ⟨h3, h4⟩ := ba2 h2
    exact ⟨c, _, hc, PySem.W.codeHd_of_K He.frG_in h1, emptyB_ok h4, Option.isNone_iff_eq_none.mp h3⟩
  · cases e
abbrev AlT : Type := AlN × Bool
def obsT (n : Nat) (fa : List He.Fa) (fn : List He.DefD) (ex : Ex) (fi : List IniD) (p : At) (g : Addr → Option Obj) : AlT :=
  (((He.obsD fa fn (He.frG g (asT g n p)), exB ex (He.frG g (asT g n p))), fi.map fun d => iniW (He.frG g (asT g n p)) d.cls), tabB g (He.frG g (asT g n p)) p)
def hookT (n : Nat) (fa : List He.Fa) (fn : List He.DefD) (ex : Ex) (fi : List IniD) (p : At) : PySem.W.Hook where
  α := AlT
  obs := fun s => obsT n fa fn ex fi p s.heap.get?
  val := fun _ => (((He.valD fn, true), fi.map IniD.val), true)
  says := fun _ h => ∃ K : PySem.W.Frag, K.In h ∧ (He.SaysD fa fn K ∧ exB ex K = true ∧ (fi.map fun d => iniW K d.cls) = fi.map IniD.val) ∧ ∃ c P, CodeT K h p c P
  of := fun _ _ e => ⟨_, He.frG_in, ⟨congrArg (fun z : AlT => z.1.1.1) e, congrArg (fun z : AlT => z.1.1.2) e, congrArg (fun z : AlT => z.1.2) e⟩, tabB_ok (congrArg (fun z : AlT => z.2) e)⟩
  keeps := fun _ _ _ ⟨K, hK, a, c, P, t⟩ k => ⟨K, PySem.W.Frag.In.keeps hK k, a, c, P, t.code, t.hd.keeps k, k _ _ t.tab, t.free⟩
theorem obsT_eq {n : Nat} {fa : List He.Fa} {fn : List He.DefD} {ex : Ex} {fi : List IniD} {p : At} {g : Addr → Option Obj} {s : Shared} (h : ∀ a, g a = s.heap.get? a) : obsT n fa fn ex fi p g = (hookT n fa fn ex fi p).obs s := by
  obtain rfl : g = s.heap.get? := funext h
  rfl
/-- as row_byN, with the table -/
theorem row_byT {l : PySem.W.OpenLaw} {i : Nat} {fa : List He.Fa} {fn : List He.DefD} {ex : Ex} {fi : List IniD} {at_ : At} {d : DefRec} {k : Nat} {q : Program} {loose : List Str} {XP : (Str → Option Value) → Heap → Prop} {sp : PySem.W.Frag → Addr → Sp} {f : PySem.W.Frag → Addr} {fd : PySem.W.Frag → FuncData}
    (hn : l.most = some 63) (hdf : d.params.defaults = []) (hr : Room k callerA) (hdn : d.name = ("law" : Str)) (hf : ∀ K mg, FactsN fa fn ex fi K mg → mg ("law" : Str) = some (.ref (f K)))
    (hb : ∀ K mg, FactsN fa fn ex fi K mg → ∀ (s : Shared) (u : Value), BindsTo s (fd K) ⟨[u], []⟩ [("script", u)])
    (hsp : ∀ (K : PySem.W.Frag) (P : Addr) (H : Hp) (a : Addr) (ns : List Int), ns.length ≤ 63 → H P = some (.tbl #[]) → SqL K H a (ns.map V.int) → sp K P [.ref a] H (fun v _ => v = .bl true) fun _ _ _ => False)
    (hF : ∀ (w : World) K mg base c P, FactsN fa fn ex fi K mg → (fdOf K at_).code = .ref c → TabB base mg c P → FnOk l.prog w K mg base CX0 k (f K) (fd K) ["script"] (sp K P)) :
    PySem.W.WalkO q loose XP (hookT i fa fn ex fi at_).says l.row.toRowW d [] (fun f vs => PySem.call f vs) := by
  refine walk_ofTsE (l := l) (n := 63) (k := k) (x := "script") (CX := fun _ => L2.CX0) hn (by decide) hdf hr (fun w mg fa' h Y G hmg0 => ?_) (fun _ _ _ _ _ z => z)
  obtain ⟨K, KX, ⟨c1, cx, ci⟩, c, P, t⟩ := Y
  have T : FactsN fa fn ex fi K mg := ⟨⟨⟨h, KX, G⟩, c1, cx⟩, ci⟩
  rw [hdn, hf K mg T] at hmg0
  cases hmg0
  refine ⟨K, KX, fd K, [(c, P)], sp K P, fun p hp => ?_, fun p hp => ?_, fun p hp => ?_, hb K mg T, fun H a ns hl _ hH hS => hsp K P H a ns hl (hH (c, P) (List.mem_singleton.mpr rfl)) hS, fun base _ _ hB => hF w K mg base c P T t.code (hB (c, P) (List.mem_singleton.mpr rfl))⟩
  all_goals cases List.mem_singleton.mp hp
  · exact t.tab
  · exact t.free
  · exact t.hd
end TK
/-! Own toolkit, part k: in a try, own classes called, o[i] and o(x) of own objects. -/
namespace TK
open PySem PySem.Spec PyProof.Rows L2
section
variable {X : Cx} {CX : CXT} {k : Nat} {C f : Addr} {fd : FuncData} {ps : List Str} {sp : Sp} {pins : List (Addr × Obj)} {σ : L2.St} {H : Hp} {s : Shared}
theorem make_at {Q : VK} {E : XK} {us : List Value} {vs : List V} (mk : Mk X.K C f) (F : FnOk X.prog X.w X.K X.mg X.base CX k f fd ps sp) (room : Room (k + 1) X.A) (bd : Binds X.K fd ps []) (hx : PassesAt CX X σ E) (I : Inv X pins σ H s) (r : Vals vs us)
    (q : ∀ x dx, H x = none → H dx = none → dx ≠ x → sp (.ref x :: (vs ++ [])) (upd (upd H dx (.own x)) x (.ins C dx [])) (fun v H2 => v = .non ∧ Q (.ref x) H2) E) :
    wpAny (model X.prog X.w) X.A (call (.ref C) us) (EP X pins σ Q) X.xe s := by
  have q0 := q (s.heap.objs.size + 1) s.heap.objs.size (I.hok.fresh (Nat.le_succ _)) (I.hok.fresh (Nat.le_refl _)) (Nat.ne_of_lt (Nat.lt_succ_self _))
  have J := Inv.made (C := C) I
  have rr : Vals (V.ref (s.heap.objs.size + 1) :: (vs ++ [])) (Value.ref (s.heap.objs.size + 1) :: us) := .cons rfl (by rw [List.append_nil]; exact r)
  have many : ((Value.ref (s.heap.objs.size + 1) :: us) ++ []).length = ps.length := by
    rw [List.append_nil, ← rr.length]
    exact F.len _ _ _ _ q0
  have bound := bd _ (Value.ref (s.heap.objs.size + 1) :: us) J.kIn many
  rw [List.append_nil] at bound
  have run := F.run _ X.stack _ _ ⟨Value.ref (s.heap.objs.size + 1) :: us, []⟩ _ _ _ E (room.make C us []) (J.env0.make C us []) bound rr q0
  refine wpAny_call (make_map (f := f) I.kIn mk.makes mk.init (beq_iff_eq.mp mk.fn) (codeAny_mono run fun out s' z => ?_))
  cases out with
  | error e => exact hx pins _ _ e s' J z
  | ok fl =>
    cases fl with
    | ret u =>
      obtain ⟨v, H', I3, rv, e, z2⟩ := J.after z
      subst e
      exact ⟨rv, V.ref (s.heap.objs.size + 1), H', I3, rfl, z2⟩
    | next => exact z.elim
    | brk => exact z.elim
    | cont => exact z.elim
/-- C(e, ..) in a try -/
def tMakeS (C : Addr) (sp : Sp) (E : L2.St → XK) (t : TA) : TE := fun σ H Q => t σ H fun vs H1 => ∀ x dx, H1 x = none → H1 dx = none → dx ≠ x → sp (.ref x :: (vs ++ [])) (upd (upd H1 dx (.own x)) x (.ins C dx [])) (fun v H2 => v = .non ∧ Q (.ref x) H2) (E σ)
theorem pe_makeS {E : L2.St → XK} {x : Str} {p pos : Pos} {e : Expr} {es : List Expr} {t : TA} (mk : Mk X.K C f) (F : FnOk X.prog X.w X.K X.mg X.base CX k f fd ps sp) (room : Room (k + 1) X.A) (hg : Gl X x) (hm : X.mg x = some (.ref C)) (bd : Binds X.K fd ps []) (hx : ∀ σ, PassesAt CX X σ (E σ))
    (ha : PA X (e :: es) t) (nd : (x == ("__debug__" : Str)) = false := by decide) (he : starEach (e :: es) X.env = (false, eval e X.env) :: starEach es X.env := by rfl) (pl : (backTo pos (starEach es X.env)).any (·.1) = false := by rfl) : PE X (.Call (.Name x p) (e :: es) [] pos) (tMakeS C sp E t) := by
  refine ⟨fun pins s σ H Q I h => wpAny_Call_Name_kw (ld_glob I hg hm ?_ nd)⟩
  refine PySem.W.callWith_K (h₀ := X.base) I.ok.mod.kin mk.kp (thn (ha.run pos pins s σ H _ I h) fun us s1 z => ?_) he pl
  obtain ⟨vs, H1, I1, r, q⟩ := z
  exact ⟨I1.kIn, make_at mk F room bd (hx σ) I1 r q⟩
/-- o[i] in a try -/
def tIxS (C : Addr) (sp : Sp) (E : L2.St → XK) (ta tb : TE) : TE := fun σ H Q => ta σ H fun x H1 => tb σ H1 fun y H2 => rDun C sp (E σ) x y H2 Q
theorem pe_ixS {E : L2.St → XK} {a b : Expr} {ta tb : TE} {pos : Pos} (m : Meth X.K C "__getitem__" f) (hfn : PySem.W.fnIn X.K f = true) (F : FnOk X.prog X.w X.K X.mg X.base CX k f fd ps sp) (hr : Room (k + 1) X.A) (hb : Binds X.K fd ps []) (hx : ∀ σ, PassesAt CX X σ (E σ))
    (ea : PE X a ta) (eb : PE X b tb) (hs : ∀ v u, subscripted b true v u = runValue (.builtin "lifetime.subscript" ⟨[v, u], []⟩) := by intro _ _; rfl) : PE X (.Subscript a b pos) (tIxS C sp E ta tb) := by
  refine ⟨fun pins s σ H Q I h => Subscript_ (binT ea eb I h fun v u s2 x y H2 I2 rx ry q => ?_)⟩
  obtain ⟨p, dx, fs, rfl, ep, hq⟩ := q
  cases rx
  obtain ⟨od, J⟩ := inst_at I2 ep
  obtain ⟨m0, hF⟩ := I2.fr
  exact PySem.W.sub_K hF I2.ok.mod.kin J m.at_ hfn m.fn (run_at (A' := X.A.in1) rfl F hr.in1 hb (hx σ) I2 (.cons (vref _) (.cons ry .nil)) hq) (hs _ _)
/-- o(e, ..) in a try -/
def tCallS (C : Addr) (sp : Sp) (E : L2.St → XK) (to : TE) (t : TA) : TE := fun σ H Q => to σ H fun y H1 => ∃ a, y = .ref a ∧ t σ H1 fun vs H2 => (∃ dx fs, H2 a = some (.ins C dx fs)) ∧ sp (.ref a :: vs) H2 Q (E σ)
theorem pe_callS' {E : L2.St → XK} {fe e : Expr} {es : List Expr} {to : TE} {t : TA} {pos : Pos} (hf : PE X fe to) (c : StX.CallO X.K C f) (F : FnOk X.prog X.w X.K X.mg X.base CX k f fd ps sp) (hr : Room k X.A) (hb : Binds X.K fd ps []) (hx : ∀ σ, PassesAt CX X σ (E σ)) (ha : PA X (e :: es) t)
    (ht : eval (.Call fe (e :: es) [] pos) X.env = (do callWith pos (← eval fe X.env) [] (backTo pos (starEach (e :: es) X.env)) (backToKw pos (keywordEach [] X.env))) := by rfl)
    (he : starEach (e :: es) X.env = (false, eval e X.env) :: starEach es X.env := by rfl) (pl : (backTo pos (starEach es X.env)).any (·.1) = false := by rfl) : PE X (.Call fe (e :: es) [] pos) (tCallS C sp E to t) := by
  refine ⟨fun pins s σ H Q I h => Call_ (thn (hf.run pins s σ H _ I h) fun u s1 z => ?_) ht⟩
  obtain ⟨y, H1, I1, ry, a, rfl, q⟩ := z
  cases ry
  refine StX.callO_with (thn (ha.run pos pins s1 σ H1 _ I1 q) fun us s2 z => ?_) he pl
  obtain ⟨vs, H2, I2, r, ⟨dx, fs, ea⟩, hq⟩ := z
  obtain ⟨od, J⟩ := inst_at I2 ea
  refine ⟨⟨C, _, _, J, rfl⟩, ?_⟩
  have ra : Vals (V.ref a :: vs) (Value.ref a :: us) := .cons (vref a) r
  have many : ((Value.ref a :: us) ++ []).length = ps.length := by
    rw [List.append_nil, ← ra.length]
    exact F.len _ _ _ _ hq
  have bound := hb s2 (Value.ref a :: us) I2.kIn many
  rw [List.append_nil] at bound
  refine wpAny_call (PySem.W.kco_code I2.kIn J rfl c.at_ c.fn c.fi (codeAny_mono (F.run X.A X.stack s2 H2 ⟨Value.ref a :: us, []⟩ _ _ Q (E σ) hr I2.env0 bound ra hq) fun out s' z => ?_))
  cases out with
  | error e => exact hx σ pins H2 s2 e s' I2 z
  | ok fl =>
    cases fl with
    | ret u => exact I2.after z
    | next => exact z.elim
    | brk => exact z.elim
    | cont => exact z.elim
end
end TK
/-! Own toolkit, part m: tactics for readings. -/
local macro_rules | `(tactic| walk_at "ne") => `(tactic| first | assumption | (apply Ne.symm; assumption) | (refine TK.ne_tag (by assumption) (by assumption) (by exact rfl)) | (refine L2.ne_of_none (by assumption) (by assumption)) | (refine Ne.symm (L2.ne_of_none (by assumption) (by assumption))))
local macro_rules | `(tactic| walk_at "hp") => `(tactic| first | exact L2.upd_same | assumption | (refine Eq.trans (L2.upd_ne (by walk_at "ne")) (by walk_at "hp")))
local macro_rules | `(tactic| walk_at "sq") => `(tactic| first | assumption | (refine L2.SqL.of (by walk_at "hp")) | (refine L2.SqT.of (by walk_at "hp")))
local macro_rules | `(tactic| walk_at "ix") => `(tactic| first | rfl | assumption)
local macro_rules | `(tactic| walk_at "cd") => `(tactic| first | assumption | decide | omega | (dsimp only; omega) | exact Or.inr ⟨by decide, by decide⟩ | exact Or.inl ⟨by omega, by omega⟩ | exact TK.cdiv_of (by omega) (by assumption) | exact TK.cdiv_small (by omega) (by omega) | exact TK.lt_big (by omega) | exact TK.line_big (by assumption) | exact ⟨by decide, by decide, by decide⟩ | exact Nat.le_of_ble_eq_true rfl)
local macro_rules | `(tactic| walk_at "fl") => `(tactic| first | rfl | exact TK.all_flat _ | assumption)
local macro_rules | `(tactic| walk_at "sta") => `(tactic| first | assumption | exact TK.StAt.mono (by assumption) (by assumption))
local macro_rules | `(tactic| walk_at "is") => `(tactic| first | assumption | exact TK.Is.int _ | exact TK.Is.bl _ | exact TK.Is.non | exact TK.Is.str _ (by assumption) | exact TK.Is.mono (by assumption) (by assumption))
local macro_rules | `(tactic| walk_at "kd") => `(tactic| first | decide +kernel | (dsimp only [TK.D.kd]; decide +kernel))
local macro_rules | `(tactic| walk_at "r1") => `(tactic| first
  | refine ⟨_, rfl, ?_⟩
  | refine ⟨rfl, ?_⟩
  | refine ⟨_, _, rfl, rfl, by walk_at "cd", ?_⟩
  | refine ⟨_, _, rfl, rfl, ?_⟩
  | refine .inl ⟨_, rfl, ?_⟩
  | refine .inl ⟨_, _, rfl, rfl, ?_⟩
  | refine .inl ⟨_, _, _, _, rfl, rfl, by walk_at "sq", by walk_at "ix", ?_⟩
  | refine .inr (.inl ⟨_, _, _, _, rfl, rfl, by walk_at "sq", by walk_at "ix", ?_⟩)
  | refine .inr (.inr ⟨_, _, _, rfl, rfl, by walk_at "cd", by walk_at "ix", ?_⟩)
  | refine ⟨_, _, _, _, rfl, rfl, by walk_at "hp", by walk_at "ix", ?_⟩
  | refine .inr ⟨_, _, rfl, .inl (by walk_at "sq"), ?_⟩
  | refine .inr ⟨_, _, rfl, .inr (by walk_at "sq"), ?_⟩
  | refine .inr (.inl ⟨_, _, rfl, rfl, by walk_at "cd", ?_⟩)
  | refine .inr (.inr (.inl ⟨_, _, _, _, rfl, rfl, by walk_at "hp", by walk_at "hp", by walk_at "cd", ?_⟩))
  | refine .inr ⟨_, _, rfl, .inl (by walk_at "sq"), rfl, by walk_at "fl", ?_⟩
  | refine .inr ⟨_, _, rfl, .inr (by walk_at "sq"), rfl, by walk_at "fl", ?_⟩
  | refine ⟨_, _, rfl, by walk_at "sta", .inl ⟨_, rfl, by walk_at "cd", by walk_at "cd", ?_⟩⟩
  | refine ⟨_, _, rfl, by walk_at "sta", .inr ⟨_, _, rfl, by walk_at "hp", by walk_at "cd", by walk_at "cd", ?_⟩⟩
  | refine ⟨⟨_, by walk_at "sq"⟩, ?_⟩
  | refine And.intro (by walk_at "cd") ?_
  | refine ⟨_, _, rfl, by walk_at "sta", by walk_at "cd", by walk_at "cd", ?_⟩
  | refine ⟨_, _, rfl, by walk_at "is", ?_⟩
  | refine L2.iteT ?_
  | refine L2.iteF ?_)
local macro_rules | `(tactic| walk_at "rd") => `(tactic| repeat (walk_at "r1"))
local macro_rules | `(tactic| walk_at "ri1") => `(tactic| first
  | refine TK.cb_isi (b := true) rfl (by walk_at "is") (by walk_at "kd") ?_
  | refine TK.cb_isi (b := false) rfl (by walk_at "is") (by walk_at "kd") ?_
  | walk_at "r1")
local macro_rules | `(tactic| walk_at "rdi") => `(tactic| repeat (walk_at "ri1"))
namespace K24
open PySem PySem.Spec PyProof.Rows L2 TK
def top (i : Nat) : Stmt := PySem.Challenge.pw_takenorelse_k24_order_of_names.main.body.getD i (.Pass ⟨0, 0, 0, 0⟩)
abbrev s_is_name : Stmt := top 12
theorem sc_is_name : FnScope ["text", "char"] ["text"] (defScope s_is_name) := ⟨rfl, rfl, rfl, by decide +kernel, rfl, by decide +kernel, by decide +kernel⟩
abbrev at_is_name : Str × Option Str := ("is_name", none)
def d_is_name : He.DefD := ⟨at_is_name, "is_name", "is_name", defArgs s_is_name, defBody s_is_name, defScope s_is_name, [], []⟩
abbrev s_check_name : Stmt := top 13
theorem sc_check_name : FnScope ["text"] ["text"] (defScope s_check_name) := ⟨rfl, rfl, rfl, by decide +kernel, rfl, by decide +kernel, by decide +kernel⟩
abbrev at_check_name : Str × Option Str := ("check_name", none)
def d_check_name : He.DefD := ⟨at_check_name, "check_name", "check_name", defArgs s_check_name, defBody s_check_name, defScope s_check_name, [], []⟩
abbrev s_KeyOrderU_initU : Stmt := inClass (top 15) 0
theorem sc_KeyOrderU_initU : FnScope ["self", "names", "name"] ["self", "names"] (defScope s_KeyOrderU_initU) := ⟨rfl, rfl, rfl, by decide +kernel, rfl, by decide +kernel, by decide +kernel⟩
abbrev at_KeyOrderU_initU : Str × Option Str := ("KeyOrder", some "__init__")
def d_KeyOrderU_initU : He.DefD := ⟨at_KeyOrderU_initU, "__init__", "KeyOrder.__init__", defArgs s_KeyOrderU_initU, defBody s_KeyOrderU_initU, defScope s_KeyOrderU_initU, [], []⟩
abbrev s_KeyOrderU_getitemU : Stmt := inClass (top 15) 1
theorem sc_KeyOrderU_getitemU : FnScope ["self", "name", "rank", "other"] ["self", "name"] (defScope s_KeyOrderU_getitemU) := ⟨rfl, rfl, rfl, by decide +kernel, rfl, by decide +kernel, by decide +kernel⟩
abbrev at_KeyOrderU_getitemU : Str × Option Str := ("KeyOrder", some "__getitem__")
def d_KeyOrderU_getitemU : He.DefD := ⟨at_KeyOrderU_getitemU, "__getitem__", "KeyOrder.__getitem__", defArgs s_KeyOrderU_getitemU, defBody s_KeyOrderU_getitemU, defScope s_KeyOrderU_getitemU, [], []⟩
abbrev s_KeyOrderU_containsU : Stmt := inClass (top 15) 2
theorem sc_KeyOrderU_containsU : FnScope ["self", "name"] ["self", "name"] (defScope s_KeyOrderU_containsU) := ⟨rfl, rfl, rfl, by decide +kernel, rfl, by decide +kernel, by decide +kernel⟩
abbrev at_KeyOrderU_containsU : Str × Option Str := ("KeyOrder", some "__contains__")
def d_KeyOrderU_containsU : He.DefD := ⟨at_KeyOrderU_containsU, "__contains__", "KeyOrder.__contains__", defArgs s_KeyOrderU_containsU, defBody s_KeyOrderU_containsU, defScope s_KeyOrderU_containsU, [], []⟩
abbrev s_KeyOrderU_iterU : Stmt := inClass (top 15) 3
theorem sc_KeyOrderU_iterU : FnScope ["self"] ["self"] (defScope s_KeyOrderU_iterU) := ⟨rfl, rfl, rfl, by decide +kernel, rfl, by decide +kernel, by decide +kernel⟩
abbrev at_KeyOrderU_iterU : Str × Option Str := ("KeyOrder", some "__iter__")
def d_KeyOrderU_iterU : He.DefD := ⟨at_KeyOrderU_iterU, "__iter__", "KeyOrder.__iter__", defArgs s_KeyOrderU_iterU, defBody s_KeyOrderU_iterU, defScope s_KeyOrderU_iterU, [], []⟩
abbrev s_KeyOrderU_lenU : Stmt := inClass (top 15) 4
theorem sc_KeyOrderU_lenU : FnScope ["self"] ["self"] (defScope s_KeyOrderU_lenU) := ⟨rfl, rfl, rfl, by decide +kernel, rfl, by decide +kernel, by decide +kernel⟩
abbrev at_KeyOrderU_lenU : Str × Option Str := ("KeyOrder", some "__len__")
def d_KeyOrderU_lenU : He.DefD := ⟨at_KeyOrderU_lenU, "__len__", "KeyOrder.__len__", defArgs s_KeyOrderU_lenU, defBody s_KeyOrderU_lenU, defScope s_KeyOrderU_lenU, [], []⟩
abbrev s_KeyOrderU_callU : Stmt := inClass (top 15) 10
theorem sc_KeyOrderU_callU : FnScope ["self", "names", "name"] ["self", "names"] (defScope s_KeyOrderU_callU) := ⟨rfl, rfl, rfl, by decide +kernel, rfl, by decide +kernel, by decide +kernel⟩
abbrev at_KeyOrderU_callU : Str × Option Str := ("KeyOrder", some "__call__")
def d_KeyOrderU_callU : He.DefD := ⟨at_KeyOrderU_callU, "__call__", "KeyOrder.__call__", defArgs s_KeyOrderU_callU, defBody s_KeyOrderU_callU, defScope s_KeyOrderU_callU, [], []⟩
abbrev s_law_state : Stmt := top 17
theorem sc_law_state : FnScope ["script"] ["script"] (defScope s_law_state) := ⟨rfl, rfl, rfl, by decide +kernel, rfl, by decide +kernel, by decide +kernel⟩
abbrev at_law_state : Str × Option Str := ("_law_state", none)
def d_law_state : He.DefD := ⟨at_law_state, "_law_state", "_law_state", defArgs s_law_state, defBody s_law_state, defScope s_law_state, [], []⟩
abbrev s_law_draw : Stmt := top 18
theorem sc_law_draw : FnScope ["state", "many", "digit", "first", "second", "third"] ["state", "many"] (defScope s_law_draw) := ⟨rfl, rfl, rfl, by decide +kernel, rfl, by decide +kernel, by decide +kernel⟩
abbrev at_law_draw : Str × Option Str := ("_law_draw", none)
def d_law_draw : He.DefD := ⟨at_law_draw, "_law_draw", "_law_draw", defArgs s_law_draw, defBody s_law_draw, defScope s_law_draw, [], []⟩
abbrev s_law_pick : Stmt := top 19
theorem sc_law_pick : FnScope ["state", "row"] ["state", "row"] (defScope s_law_pick) := ⟨rfl, rfl, rfl, by decide +kernel, rfl, by decide +kernel, by decide +kernel⟩
abbrev at_law_pick : Str × Option Str := ("_law_pick", none)
def d_law_pick : He.DefD := ⟨at_law_pick, "_law_pick", "_law_pick", defArgs s_law_pick, defBody s_law_pick, defScope s_law_pick, [], []⟩
abbrev s_law_mixed : Stmt := top 20
theorem sc_law_mixed : FnScope ["state", "row", "rest", "result", "k", "at"] ["state", "row"] (defScope s_law_mixed) := ⟨rfl, rfl, rfl, by decide +kernel, rfl, by decide +kernel, by decide +kernel⟩
abbrev at_law_mixed : Str × Option Str := ("_law_mixed", none)
def d_law_mixed : He.DefD := ⟨at_law_mixed, "_law_mixed", "_law_mixed", defArgs s_law_mixed, defBody s_law_mixed, defScope s_law_mixed, [], []⟩
abbrev s_law_names : Stmt := top 21
theorem sc_law_names : FnScope ["state", "many", "letters", "style", "shift", "code", "spot", "base", "k", "reserved", "result", "word"] ["state", "many"] (defScope s_law_names) := ⟨rfl, rfl, rfl, by decide +kernel, rfl, by decide +kernel, by decide +kernel⟩
abbrev at_law_names : Str × Option Str := ("_law_names", none)
def d_law_names : He.DefD := ⟨at_law_names, "_law_names", "_law_names", defArgs s_law_names, defBody s_law_names, defScope s_law_names, [], []⟩
abbrev s_law_is_int : Stmt := top 22
theorem sc_law_is_int : FnScope ["thing"] ["thing"] (defScope s_law_is_int) := ⟨rfl, rfl, rfl, by decide +kernel, rfl, by decide +kernel, by decide +kernel⟩
abbrev at_law_is_int : Str × Option Str := ("_law_is_int", none)
def d_law_is_int : He.DefD := ⟨at_law_is_int, "_law_is_int", "_law_is_int", defArgs s_law_is_int, defBody s_law_is_int, defScope s_law_is_int, [], []⟩
abbrev s_law_same : Stmt := top 23
theorem sc_law_same : FnScope ["actual", "due", "key", "k"] ["actual", "due"] (defScope s_law_same) := ⟨rfl, rfl, rfl, by decide +kernel, rfl, by decide +kernel, by decide +kernel⟩
abbrev at_law_same : Str × Option Str := ("_law_same", none)
def d_law_same : He.DefD := ⟨at_law_same, "_law_same", "_law_same", defArgs s_law_same, defBody s_law_same, defScope s_law_same, [], []⟩
abbrev s_law_bad_name : Stmt := top 24
theorem sc_law_bad_name : FnScope ["state", "good", "kind", "reserved", "spot"] ["state", "good"] (defScope s_law_bad_name) := ⟨rfl, rfl, rfl, by decide +kernel, rfl, by decide +kernel, by decide +kernel⟩
abbrev at_law_bad_name : Str × Option Str := ("_law_bad_name", none)
def d_law_bad_name : He.DefD := ⟨at_law_bad_name, "_law_bad_name", "_law_bad_name", defArgs s_law_bad_name, defBody s_law_bad_name, defScope s_law_bad_name, [], []⟩
abbrev s_law_try : Stmt := top 25
theorem sc_law_try : FnScope ["row", "order", "e", "thing", "kinds"] ["row"] (defScope s_law_try) := ⟨rfl, rfl, rfl, by decide +kernel, rfl, by decide +kernel, by decide +kernel⟩
abbrev at_law_try : Str × Option Str := ("_law_try", none)
def d_law_try : He.DefD := ⟨at_law_try, "_law_try", "_law_try", defArgs s_law_try, defBody s_law_try, defScope s_law_try, [], []⟩
abbrev s_law_due : Stmt := top 26
theorem sc_law_due : FnScope ["row", "names", "name", "k"] ["row", "names"] (defScope s_law_due) := ⟨rfl, rfl, rfl, by decide +kernel, rfl, by decide +kernel, by decide +kernel⟩
abbrev at_law_due : Str × Option Str := ("_law_due", none)
def d_law_due : He.DefD := ⟨at_law_due, "_law_due", "_law_due", defArgs s_law_due, defBody s_law_due, defScope s_law_due, [], []⟩
abbrev s_law_rank : Stmt := top 27
theorem sc_law_rank : FnScope ["order", "name", "rank", "e", "other"] ["order", "name"] (defScope s_law_rank) := ⟨rfl, rfl, rfl, by decide +kernel, rfl, by decide +kernel, by decide +kernel⟩
abbrev at_law_rank : Str × Option Str := ("_law_rank", none)
def d_law_rank : He.DefD := ⟨at_law_rank, "_law_rank", "_law_rank", defArgs s_law_rank, defBody s_law_rank, defScope s_law_rank, [], []⟩
abbrev s_law_sort : Stmt := top 28
theorem sc_law_sort : FnScope ["order", "row", "result", "e", "other"] ["order", "row"] (defScope s_law_sort) := ⟨rfl, rfl, rfl, by decide +kernel, rfl, by decide +kernel, by decide +kernel⟩
abbrev at_law_sort : Str × Option Str := ("_law_sort", none)
def d_law_sort : He.DefD := ⟨at_law_sort, "_law_sort", "_law_sort", defArgs s_law_sort, defBody s_law_sort, defScope s_law_sort, [], []⟩
abbrev s_law_sort_due : Stmt := top 29
theorem sc_law_sort_due : FnScope ["row", "wanted", "name", "result", "other"] ["row", "wanted"] (defScope s_law_sort_due) := ⟨rfl, rfl, rfl, by decide +kernel, rfl, by decide +kernel, by decide +kernel⟩
abbrev at_law_sort_due : Str × Option Str := ("_law_sort_due", none)
def d_law_sort_due : He.DefD := ⟨at_law_sort_due, "_law_sort_due", "_law_sort_due", defArgs s_law_sort_due, defBody s_law_sort_due, defScope s_law_sort_due, [], []⟩
abbrev s_law_fits : Stmt := top 30
theorem sc_law_fits : FnScope ["order", "row", "asked", "name", "due"] ["order", "row", "asked"] (defScope s_law_fits) := ⟨rfl, rfl, rfl, by decide +kernel, rfl, by decide +kernel, by decide +kernel⟩
abbrev at_law_fits : Str × Option Str := ("_law_fits", none)
def d_law_fits : He.DefD := ⟨at_law_fits, "_law_fits", "_law_fits", defArgs s_law_fits, defBody s_law_fits, defScope s_law_fits, [], []⟩
abbrev s_law : Stmt := top 31
theorem sc_law : FnScope ["script", "state", "names", "row", "bad", "asked", "handed", "order", "back", "wanted", "k", "source", "result", "longer", "item", "at", "due"] ["script"] (defScope s_law) := ⟨rfl, rfl, rfl, by decide +kernel, rfl, by decide +kernel, by decide +kernel⟩
abbrev at_law : Str × Option Str := ("law", none)
def d_law : He.DefD := ⟨at_law, "law", "law", defArgs s_law, defBody s_law, defScope s_law, [], []⟩
def c_RESERVED : List Str := ["always", "never", "and", "or", "not", "when", "add", "set", "change", "tell", "refuse", "take", "look", "free", "lock", "keep", "keys", "fields"]
def x_RESERVED : PySem.W.Frag → Bool := fun K => He.tupB K "RESERVED" (c_RESERVED.map He.Dv.str)
def PP : Program := (PySem.Challenge.rw_takenorelse_k24_order_of_names).prog
abbrev s_BadNameI : Stmt := inClass (top 2) 0
def i_BadName : IniD := ⟨"BadName", "BadName.__init__", defArgs s_BadNameI, defBody s_BadNameI, defScope s_BadNameI⟩
theorem nsc_BadName : NdefX.NScope ["self", "name", "__class__"] ["self", "name"] ["__class__"] (defScope s_BadNameI) := NdefX.nscope_by (by decide +kernel)
def xo_BadName : PySem.W.Frag → Bool := fun K => ownB K "BadName" ["name"]
def xi_BadName : PySem.W.Frag → Bool := fun K => iniB PP K i_BadName
abbrev s_UnknownNameI : Stmt := inClass (top 3) 0
def i_UnknownName : IniD := ⟨"UnknownName", "UnknownName.__init__", defArgs s_UnknownNameI, defBody s_UnknownNameI, defScope s_UnknownNameI⟩
theorem nsc_UnknownName : NdefX.NScope ["self", "name", "__class__"] ["self", "name"] ["__class__"] (defScope s_UnknownNameI) := NdefX.nscope_by (by decide +kernel)
def xo_UnknownName : PySem.W.Frag → Bool := fun K => ownB K "UnknownName" ["name"]
def xi_UnknownName : PySem.W.Frag → Bool := fun K => iniB PP K i_UnknownName
abbrev s_UnknownKeyI : Stmt := inClass (top 4) 0
def i_UnknownKey : IniD := ⟨"UnknownKey", "UnknownKey.__init__", defArgs s_UnknownKeyI, defBody s_UnknownKeyI, defScope s_UnknownKeyI⟩
theorem nsc_UnknownKey : NdefX.NScope ["self", "name", "__class__"] ["self", "name"] ["__class__"] (defScope s_UnknownKeyI) := NdefX.nscope_by (by decide +kernel)
def xo_UnknownKey : PySem.W.Frag → Bool := fun K => ownUB K "UnknownKey" "UnknownName" ["name"]
def xi_UnknownKey : PySem.W.Frag → Bool := fun K => iniB PP K i_UnknownKey
abbrev s_UnknownFieldI : Stmt := inClass (top 5) 0
def i_UnknownField : IniD := ⟨"UnknownField", "UnknownField.__init__", defArgs s_UnknownFieldI, defBody s_UnknownFieldI, defScope s_UnknownFieldI⟩
theorem nsc_UnknownField : NdefX.NScope ["self", "name", "__class__"] ["self", "name"] ["__class__"] (defScope s_UnknownFieldI) := NdefX.nscope_by (by decide +kernel)
def xo_UnknownField : PySem.W.Frag → Bool := fun K => ownUB K "UnknownField" "UnknownName" ["name"]
def xi_UnknownField : PySem.W.Frag → Bool := fun K => iniB PP K i_UnknownField
abbrev s_UnknownShapeI : Stmt := inClass (top 6) 0
def i_UnknownShape : IniD := ⟨"UnknownShape", "UnknownShape.__init__", defArgs s_UnknownShapeI, defBody s_UnknownShapeI, defScope s_UnknownShapeI⟩
theorem nsc_UnknownShape : NdefX.NScope ["self", "name", "__class__"] ["self", "name"] ["__class__"] (defScope s_UnknownShapeI) := NdefX.nscope_by (by decide +kernel)
def xo_UnknownShape : PySem.W.Frag → Bool := fun K => ownUB K "UnknownShape" "UnknownName" ["name"]
def xi_UnknownShape : PySem.W.Frag → Bool := fun K => iniB PP K i_UnknownShape
abbrev s_BadOrderI : Stmt := inClass (top 7) 0
def i_BadOrder : IniD := ⟨"BadOrder", "BadOrder.__init__", defArgs s_BadOrderI, defBody s_BadOrderI, defScope s_BadOrderI⟩
theorem nsc_BadOrder : NdefX.NScope ["self", "__class__"] ["self"] ["__class__"] (defScope s_BadOrderI) := NdefX.nscope_by (by decide +kernel)
def xo_BadOrder : PySem.W.Frag → Bool := fun K => ownB K "BadOrder" []
def xi_BadOrder : PySem.W.Frag → Bool := fun K => iniB PP K i_BadOrder
def xm_getitem : PySem.W.Frag → Bool := fun K => PySem.W.fnIn K (He.ma K (He.ga K "KeyOrder") "__getitem__")
def xm_isfn : PySem.W.Frag → Bool := fun K => PySem.W.isFn K (.ref (He.fAd K ("KeyOrder", some "__call__")))
def xm_fnin : PySem.W.Frag → Bool := fun K => PySem.W.fnIn K (He.fAd K ("KeyOrder", some "__call__"))
def xm_callat : PySem.W.Frag → Bool := fun K => decide (PySem.W.findIn K (.ref (He.ga K "KeyOrder")) "__call__" = some (some (.ref (He.fAd K ("KeyOrder", some "__call__")))))
def xk_BadName_BadName : PySem.W.Frag → Bool := fun K => decide (PySem.W.kitOne K (.ref (He.ga K "BadName")) (.ref (He.ga K "BadName")) = some true)
def xk_BadName_BadOrder : PySem.W.Frag → Bool := fun K => decide (PySem.W.kitOne K (.ref (He.ga K "BadName")) (.ref (He.ga K "BadOrder")) = some false)
def xk_BadName_ValueError : PySem.W.Frag → Bool := fun K => decide (PySem.W.kitOne K (.ref (He.ga K "BadName")) (.type "ValueError") = some true)
def xk_BadOrder_ValueError : PySem.W.Frag → Bool := fun K => decide (PySem.W.kitOne K (.ref (He.ga K "BadOrder")) (.type "ValueError") = some true)
def xk_BadName_UnknownName : PySem.W.Frag → Bool := fun K => decide (PySem.W.kitOne K (.ref (He.ga K "BadName")) (.ref (He.ga K "UnknownName")) = some false)
def xk_BadOrder_UnknownName : PySem.W.Frag → Bool := fun K => decide (PySem.W.kitOne K (.ref (He.ga K "BadOrder")) (.ref (He.ga K "UnknownName")) = some false)
def xk_BadOrder_BadName : PySem.W.Frag → Bool := fun K => decide (PySem.W.kitOne K (.ref (He.ga K "BadOrder")) (.ref (He.ga K "BadName")) = some false)
def xk_BadOrder_BadOrder : PySem.W.Frag → Bool := fun K => decide (PySem.W.kitOne K (.ref (He.ga K "BadOrder")) (.ref (He.ga K "BadOrder")) = some true)
def xk_UnknownKey_UnknownName : PySem.W.Frag → Bool := fun K => decide (PySem.W.kitOne K (.ref (He.ga K "UnknownKey")) (.ref (He.ga K "UnknownName")) = some true)
def xk_UnknownKey_UnknownField : PySem.W.Frag → Bool := fun K => decide (PySem.W.kitOne K (.ref (He.ga K "UnknownKey")) (.ref (He.ga K "UnknownField")) = some false)
def xk_UnknownKey_UnknownShape : PySem.W.Frag → Bool := fun K => decide (PySem.W.kitOne K (.ref (He.ga K "UnknownKey")) (.ref (He.ga K "UnknownShape")) = some false)
def fn : List He.DefD := [d_is_name, d_check_name, d_KeyOrderU_initU, d_KeyOrderU_getitemU, d_KeyOrderU_containsU, d_KeyOrderU_iterU, d_KeyOrderU_lenU, d_KeyOrderU_callU, d_law_state, d_law_draw, d_law_pick, d_law_mixed, d_law_names, d_law_is_int, d_law_same, d_law_bad_name, d_law_try, d_law_due, d_law_rank, d_law_sort, d_law_sort_due, d_law_fits, d_law]
def fa : List He.Fa := [.glo "is_name", .glo "check_name", .glo "_law_state", .glo "_law_draw", .glo "_law_pick", .glo "_law_mixed", .glo "_law_names", .glo "_law_is_int", .glo "_law_same", .glo "_law_bad_name", .glo "_law_try", .glo "_law_due", .glo "_law_rank", .glo "_law_sort", .glo "_law_sort_due", .glo "_law_fits", .glo "law", .free "len", .free "isinstance", .free "range", .free "list", .free "int", .free "str", .free "bool", .free "dict", .free "tuple", .free "set", .free "enumerate", .free "iter", .free "super", .free "sorted", .free "ValueError", .str "LETTERS" "abcdefghijklmnopqrstuvwxyz", .glo "RESERVED", .int "NAME_LENGTH" 12, .glo "BadName", .glo "UnknownName", .glo "UnknownKey", .glo "UnknownField", .glo "UnknownShape", .glo "BadOrder", .glo "ElseputError", .glo "KeyOrder", .cls "KeyOrder", .noat "KeyOrder" "names", .mkr "KeyOrder", .meth "KeyOrder" "__init__", .meth "KeyOrder" "__getitem__", .meth "KeyOrder" "__contains__", .meth "KeyOrder" "__iter__", .meth "KeyOrder" "__len__", .meth "KeyOrder" "__call__", .exm "BadName" "ElseputError" true, .exm "BadOrder" "ElseputError" true, .exm "UnknownKey" "UnknownKey" true]
def ex : Ex := [x_RESERVED, xo_BadName, xi_BadName, xo_UnknownName, xi_UnknownName, xo_UnknownKey, xi_UnknownKey, xo_UnknownField, xi_UnknownField, xo_UnknownShape, xi_UnknownShape, xo_BadOrder, xi_BadOrder, xm_getitem, xm_isfn, xm_fnin, xm_callat, xk_BadName_BadName, xk_BadName_BadOrder, xk_BadName_ValueError, xk_BadOrder_ValueError, xk_BadName_UnknownName, xk_BadOrder_UnknownName, xk_BadOrder_BadName, xk_BadOrder_BadOrder, xk_UnknownKey_UnknownName, xk_UnknownKey_UnknownField, xk_UnknownKey_UnknownShape]
def fi : List IniD := [i_BadName, i_UnknownName, i_UnknownKey, i_UnknownField, i_UnknownShape, i_BadOrder]
abbrev Tx (K : PySem.W.Frag) (mg : Str → Option Value) : Prop := FactsN fa fn ex fi K mg
section
variable {K : PySem.W.Frag} {mg : Str → Option Value}
theorem Tx.F_is_name (T : Tx K mg) : FunD K "is_name" "is_name" (defArgs s_is_name) (defBody s_is_name) (defScope s_is_name) [] [] (He.fAd K at_is_name) (fdOf K at_is_name) := Facts.fun_ T.b 0 d_is_name
theorem Tx.b_is_name (T : Tx K mg) : Binds K (fdOf K at_is_name) ["text"] [] := T.F_is_name.bindsN (ps := ["text"]) fun _ _ _ _ _ _ us hl => match us, hl with | [_], _ => rfl
theorem Tx.m_is_name (T : Tx K mg) : mg "is_name" = some (.ref (He.fAd K at_is_name)) := Facts.glo T.b 0 "is_name"
theorem Tx.F_check_name (T : Tx K mg) : FunD K "check_name" "check_name" (defArgs s_check_name) (defBody s_check_name) (defScope s_check_name) [] [] (He.fAd K at_check_name) (fdOf K at_check_name) := Facts.fun_ T.b 1 d_check_name
theorem Tx.b_check_name (T : Tx K mg) : Binds K (fdOf K at_check_name) ["text"] [] := T.F_check_name.bindsN (ps := ["text"]) fun _ _ _ _ _ _ us hl => match us, hl with | [_], _ => rfl
theorem Tx.m_check_name (T : Tx K mg) : mg "check_name" = some (.ref (He.fAd K at_check_name)) := Facts.glo T.b 1 "check_name"
theorem Tx.F_KeyOrderU_initU (T : Tx K mg) : FunD K "__init__" "KeyOrder.__init__" (defArgs s_KeyOrderU_initU) (defBody s_KeyOrderU_initU) (defScope s_KeyOrderU_initU) [] [] (He.fAd K at_KeyOrderU_initU) (fdOf K at_KeyOrderU_initU) := Facts.fun_ T.b 2 d_KeyOrderU_initU
theorem Tx.b_KeyOrderU_initU (T : Tx K mg) : Binds K (fdOf K at_KeyOrderU_initU) ["self", "names"] [] := T.F_KeyOrderU_initU.bindsN (ps := ["self", "names"]) fun _ _ _ _ _ _ us hl => match us, hl with | [_, _], _ => rfl
theorem Tx.F_KeyOrderU_getitemU (T : Tx K mg) : FunD K "__getitem__" "KeyOrder.__getitem__" (defArgs s_KeyOrderU_getitemU) (defBody s_KeyOrderU_getitemU) (defScope s_KeyOrderU_getitemU) [] [] (He.fAd K at_KeyOrderU_getitemU) (fdOf K at_KeyOrderU_getitemU) := Facts.fun_ T.b 3 d_KeyOrderU_getitemU
theorem Tx.b_KeyOrderU_getitemU (T : Tx K mg) : Binds K (fdOf K at_KeyOrderU_getitemU) ["self", "name"] [] := T.F_KeyOrderU_getitemU.bindsN (ps := ["self", "name"]) fun _ _ _ _ _ _ us hl => match us, hl with | [_, _], _ => rfl
theorem Tx.F_KeyOrderU_containsU (T : Tx K mg) : FunD K "__contains__" "KeyOrder.__contains__" (defArgs s_KeyOrderU_containsU) (defBody s_KeyOrderU_containsU) (defScope s_KeyOrderU_containsU) [] [] (He.fAd K at_KeyOrderU_containsU) (fdOf K at_KeyOrderU_containsU) := Facts.fun_ T.b 4 d_KeyOrderU_containsU
theorem Tx.b_KeyOrderU_containsU (T : Tx K mg) : Binds K (fdOf K at_KeyOrderU_containsU) ["self", "name"] [] := T.F_KeyOrderU_containsU.bindsN (ps := ["self", "name"]) fun _ _ _ _ _ _ us hl => match us, hl with | [_, _], _ => rfl
theorem Tx.F_KeyOrderU_iterU (T : Tx K mg) : FunD K "__iter__" "KeyOrder.__iter__" (defArgs s_KeyOrderU_iterU) (defBody s_KeyOrderU_iterU) (defScope s_KeyOrderU_iterU) [] [] (He.fAd K at_KeyOrderU_iterU) (fdOf K at_KeyOrderU_iterU) := Facts.fun_ T.b 5 d_KeyOrderU_iterU
theorem Tx.b_KeyOrderU_iterU (T : Tx K mg) : Binds K (fdOf K at_KeyOrderU_iterU) ["self"] [] := T.F_KeyOrderU_iterU.bindsN (ps := ["self"]) fun _ _ _ _ _ _ us hl => match us, hl with | [_], _ => rfl
theorem Tx.F_KeyOrderU_lenU (T : Tx K mg) : FunD K "__len__" "KeyOrder.__len__" (defArgs s_KeyOrderU_lenU) (defBody s_KeyOrderU_lenU) (defScope s_KeyOrderU_lenU) [] [] (He.fAd K at_KeyOrderU_lenU) (fdOf K at_KeyOrderU_lenU) := Facts.fun_ T.b 6 d_KeyOrderU_lenU
theorem Tx.b_KeyOrderU_lenU (T : Tx K mg) : Binds K (fdOf K at_KeyOrderU_lenU) ["self"] [] := T.F_KeyOrderU_lenU.bindsN (ps := ["self"]) fun _ _ _ _ _ _ us hl => match us, hl with | [_], _ => rfl
theorem Tx.F_KeyOrderU_callU (T : Tx K mg) : FunD K "__call__" "KeyOrder.__call__" (defArgs s_KeyOrderU_callU) (defBody s_KeyOrderU_callU) (defScope s_KeyOrderU_callU) [] [] (He.fAd K at_KeyOrderU_callU) (fdOf K at_KeyOrderU_callU) := Facts.fun_ T.b 7 d_KeyOrderU_callU
theorem Tx.b_KeyOrderU_callU (T : Tx K mg) : Binds K (fdOf K at_KeyOrderU_callU) ["self", "names"] [] := T.F_KeyOrderU_callU.bindsN (ps := ["self", "names"]) fun _ _ _ _ _ _ us hl => match us, hl with | [_, _], _ => rfl
theorem Tx.F_law_state (T : Tx K mg) : FunD K "_law_state" "_law_state" (defArgs s_law_state) (defBody s_law_state) (defScope s_law_state) [] [] (He.fAd K at_law_state) (fdOf K at_law_state) := Facts.fun_ T.b 8 d_law_state
theorem Tx.b_law_state (T : Tx K mg) : Binds K (fdOf K at_law_state) ["script"] [] := T.F_law_state.bindsN (ps := ["script"]) fun _ _ _ _ _ _ us hl => match us, hl with | [_], _ => rfl
theorem Tx.m_law_state (T : Tx K mg) : mg "_law_state" = some (.ref (He.fAd K at_law_state)) := Facts.glo T.b 2 "_law_state"
theorem Tx.F_law_draw (T : Tx K mg) : FunD K "_law_draw" "_law_draw" (defArgs s_law_draw) (defBody s_law_draw) (defScope s_law_draw) [] [] (He.fAd K at_law_draw) (fdOf K at_law_draw) := Facts.fun_ T.b 9 d_law_draw
theorem Tx.b_law_draw (T : Tx K mg) : Binds K (fdOf K at_law_draw) ["state", "many"] [] := T.F_law_draw.bindsN (ps := ["state", "many"]) fun _ _ _ _ _ _ us hl => match us, hl with | [_, _], _ => rfl
theorem Tx.m_law_draw (T : Tx K mg) : mg "_law_draw" = some (.ref (He.fAd K at_law_draw)) := Facts.glo T.b 3 "_law_draw"
theorem Tx.F_law_pick (T : Tx K mg) : FunD K "_law_pick" "_law_pick" (defArgs s_law_pick) (defBody s_law_pick) (defScope s_law_pick) [] [] (He.fAd K at_law_pick) (fdOf K at_law_pick) := Facts.fun_ T.b 10 d_law_pick
theorem Tx.b_law_pick (T : Tx K mg) : Binds K (fdOf K at_law_pick) ["state", "row"] [] := T.F_law_pick.bindsN (ps := ["state", "row"]) fun _ _ _ _ _ _ us hl => match us, hl with | [_, _], _ => rfl
theorem Tx.m_law_pick (T : Tx K mg) : mg "_law_pick" = some (.ref (He.fAd K at_law_pick)) := Facts.glo T.b 4 "_law_pick"
theorem Tx.F_law_mixed (T : Tx K mg) : FunD K "_law_mixed" "_law_mixed" (defArgs s_law_mixed) (defBody s_law_mixed) (defScope s_law_mixed) [] [] (He.fAd K at_law_mixed) (fdOf K at_law_mixed) := Facts.fun_ T.b 11 d_law_mixed
theorem Tx.b_law_mixed (T : Tx K mg) : Binds K (fdOf K at_law_mixed) ["state", "row"] [] := T.F_law_mixed.bindsN (ps := ["state", "row"]) fun _ _ _ _ _ _ us hl => match us, hl with | [_, _], _ => rfl
theorem Tx.m_law_mixed (T : Tx K mg) : mg "_law_mixed" = some (.ref (He.fAd K at_law_mixed)) := Facts.glo T.b 5 "_law_mixed"
theorem Tx.F_law_names (T : Tx K mg) : FunD K "_law_names" "_law_names" (defArgs s_law_names) (defBody s_law_names) (defScope s_law_names) [] [] (He.fAd K at_law_names) (fdOf K at_law_names) := Facts.fun_ T.b 12 d_law_names
theorem Tx.b_law_names (T : Tx K mg) : Binds K (fdOf K at_law_names) ["state", "many"] [] := T.F_law_names.bindsN (ps := ["state", "many"]) fun _ _ _ _ _ _ us hl => match us, hl with | [_, _], _ => rfl
theorem Tx.m_law_names (T : Tx K mg) : mg "_law_names" = some (.ref (He.fAd K at_law_names)) := Facts.glo T.b 6 "_law_names"
theorem Tx.F_law_is_int (T : Tx K mg) : FunD K "_law_is_int" "_law_is_int" (defArgs s_law_is_int) (defBody s_law_is_int) (defScope s_law_is_int) [] [] (He.fAd K at_law_is_int) (fdOf K at_law_is_int) := Facts.fun_ T.b 13 d_law_is_int
theorem Tx.b_law_is_int (T : Tx K mg) : Binds K (fdOf K at_law_is_int) ["thing"] [] := T.F_law_is_int.bindsN (ps := ["thing"]) fun _ _ _ _ _ _ us hl => match us, hl with | [_], _ => rfl
theorem Tx.m_law_is_int (T : Tx K mg) : mg "_law_is_int" = some (.ref (He.fAd K at_law_is_int)) := Facts.glo T.b 7 "_law_is_int"
theorem Tx.F_law_same (T : Tx K mg) : FunD K "_law_same" "_law_same" (defArgs s_law_same) (defBody s_law_same) (defScope s_law_same) [] [] (He.fAd K at_law_same) (fdOf K at_law_same) := Facts.fun_ T.b 14 d_law_same
theorem Tx.b_law_same (T : Tx K mg) : Binds K (fdOf K at_law_same) ["actual", "due"] [] := T.F_law_same.bindsN (ps := ["actual", "due"]) fun _ _ _ _ _ _ us hl => match us, hl with | [_, _], _ => rfl
theorem Tx.m_law_same (T : Tx K mg) : mg "_law_same" = some (.ref (He.fAd K at_law_same)) := Facts.glo T.b 8 "_law_same"
theorem Tx.F_law_bad_name (T : Tx K mg) : FunD K "_law_bad_name" "_law_bad_name" (defArgs s_law_bad_name) (defBody s_law_bad_name) (defScope s_law_bad_name) [] [] (He.fAd K at_law_bad_name) (fdOf K at_law_bad_name) := Facts.fun_ T.b 15 d_law_bad_name
theorem Tx.b_law_bad_name (T : Tx K mg) : Binds K (fdOf K at_law_bad_name) ["state", "good"] [] := T.F_law_bad_name.bindsN (ps := ["state", "good"]) fun _ _ _ _ _ _ us hl => match us, hl with | [_, _], _ => rfl
theorem Tx.m_law_bad_name (T : Tx K mg) : mg "_law_bad_name" = some (.ref (He.fAd K at_law_bad_name)) := Facts.glo T.b 9 "_law_bad_name"
theorem Tx.F_law_try (T : Tx K mg) : FunD K "_law_try" "_law_try" (defArgs s_law_try) (defBody s_law_try) (defScope s_law_try) [] [] (He.fAd K at_law_try) (fdOf K at_law_try) := Facts.fun_ T.b 16 d_law_try
theorem Tx.b_law_try (T : Tx K mg) : Binds K (fdOf K at_law_try) ["row"] [] := T.F_law_try.bindsN (ps := ["row"]) fun _ _ _ _ _ _ us hl => match us, hl with | [_], _ => rfl
theorem Tx.m_law_try (T : Tx K mg) : mg "_law_try" = some (.ref (He.fAd K at_law_try)) := Facts.glo T.b 10 "_law_try"
theorem Tx.F_law_due (T : Tx K mg) : FunD K "_law_due" "_law_due" (defArgs s_law_due) (defBody s_law_due) (defScope s_law_due) [] [] (He.fAd K at_law_due) (fdOf K at_law_due) := Facts.fun_ T.b 17 d_law_due
theorem Tx.b_law_due (T : Tx K mg) : Binds K (fdOf K at_law_due) ["row", "names"] [] := T.F_law_due.bindsN (ps := ["row", "names"]) fun _ _ _ _ _ _ us hl => match us, hl with | [_, _], _ => rfl
theorem Tx.m_law_due (T : Tx K mg) : mg "_law_due" = some (.ref (He.fAd K at_law_due)) := Facts.glo T.b 11 "_law_due"
theorem Tx.F_law_rank (T : Tx K mg) : FunD K "_law_rank" "_law_rank" (defArgs s_law_rank) (defBody s_law_rank) (defScope s_law_rank) [] [] (He.fAd K at_law_rank) (fdOf K at_law_rank) := Facts.fun_ T.b 18 d_law_rank
theorem Tx.b_law_rank (T : Tx K mg) : Binds K (fdOf K at_law_rank) ["order", "name"] [] := T.F_law_rank.bindsN (ps := ["order", "name"]) fun _ _ _ _ _ _ us hl => match us, hl with | [_, _], _ => rfl
theorem Tx.m_law_rank (T : Tx K mg) : mg "_law_rank" = some (.ref (He.fAd K at_law_rank)) := Facts.glo T.b 12 "_law_rank"
theorem Tx.F_law_sort (T : Tx K mg) : FunD K "_law_sort" "_law_sort" (defArgs s_law_sort) (defBody s_law_sort) (defScope s_law_sort) [] [] (He.fAd K at_law_sort) (fdOf K at_law_sort) := Facts.fun_ T.b 19 d_law_sort
theorem Tx.b_law_sort (T : Tx K mg) : Binds K (fdOf K at_law_sort) ["order", "row"] [] := T.F_law_sort.bindsN (ps := ["order", "row"]) fun _ _ _ _ _ _ us hl => match us, hl with | [_, _], _ => rfl
theorem Tx.m_law_sort (T : Tx K mg) : mg "_law_sort" = some (.ref (He.fAd K at_law_sort)) := Facts.glo T.b 13 "_law_sort"
theorem Tx.F_law_sort_due (T : Tx K mg) : FunD K "_law_sort_due" "_law_sort_due" (defArgs s_law_sort_due) (defBody s_law_sort_due) (defScope s_law_sort_due) [] [] (He.fAd K at_law_sort_due) (fdOf K at_law_sort_due) := Facts.fun_ T.b 20 d_law_sort_due
theorem Tx.b_law_sort_due (T : Tx K mg) : Binds K (fdOf K at_law_sort_due) ["row", "wanted"] [] := T.F_law_sort_due.bindsN (ps := ["row", "wanted"]) fun _ _ _ _ _ _ us hl => match us, hl with | [_, _], _ => rfl
theorem Tx.m_law_sort_due (T : Tx K mg) : mg "_law_sort_due" = some (.ref (He.fAd K at_law_sort_due)) := Facts.glo T.b 14 "_law_sort_due"
theorem Tx.F_law_fits (T : Tx K mg) : FunD K "_law_fits" "_law_fits" (defArgs s_law_fits) (defBody s_law_fits) (defScope s_law_fits) [] [] (He.fAd K at_law_fits) (fdOf K at_law_fits) := Facts.fun_ T.b 21 d_law_fits
theorem Tx.b_law_fits (T : Tx K mg) : Binds K (fdOf K at_law_fits) ["order", "row", "asked"] [] := T.F_law_fits.bindsN (ps := ["order", "row", "asked"]) fun _ _ _ _ _ _ us hl => match us, hl with | [_, _, _], _ => rfl
theorem Tx.m_law_fits (T : Tx K mg) : mg "_law_fits" = some (.ref (He.fAd K at_law_fits)) := Facts.glo T.b 15 "_law_fits"
theorem Tx.F_law (T : Tx K mg) : FunD K "law" "law" (defArgs s_law) (defBody s_law) (defScope s_law) [] [] (He.fAd K at_law) (fdOf K at_law) := Facts.fun_ T.b 22 d_law
theorem Tx.b_law (T : Tx K mg) : Binds K (fdOf K at_law) ["script"] [] := T.F_law.bindsN (ps := ["script"]) fun _ _ _ _ _ _ us hl => match us, hl with | [_], _ => rfl
theorem Tx.m_law (T : Tx K mg) : mg "law" = some (.ref (He.fAd K at_law)) := Facts.glo T.b 16 "law"
theorem Tx.z_len (T : Tx K mg) : mg "len" = none := Facts.free T.b 17 "len"
theorem Tx.z_isinstance (T : Tx K mg) : mg "isinstance" = none := Facts.free T.b 18 "isinstance"
theorem Tx.z_range (T : Tx K mg) : mg "range" = none := Facts.free T.b 19 "range"
theorem Tx.z_list (T : Tx K mg) : mg "list" = none := Facts.free T.b 20 "list"
theorem Tx.z_int (T : Tx K mg) : mg "int" = none := Facts.free T.b 21 "int"
theorem Tx.z_str (T : Tx K mg) : mg "str" = none := Facts.free T.b 22 "str"
theorem Tx.z_bool (T : Tx K mg) : mg "bool" = none := Facts.free T.b 23 "bool"
theorem Tx.z_dict (T : Tx K mg) : mg "dict" = none := Facts.free T.b 24 "dict"
theorem Tx.z_tuple (T : Tx K mg) : mg "tuple" = none := Facts.free T.b 25 "tuple"
theorem Tx.z_set (T : Tx K mg) : mg "set" = none := Facts.free T.b 26 "set"
theorem Tx.z_enumerate (T : Tx K mg) : mg "enumerate" = none := Facts.free T.b 27 "enumerate"
theorem Tx.z_iter (T : Tx K mg) : mg "iter" = none := Facts.free T.b 28 "iter"
theorem Tx.z_super (T : Tx K mg) : mg "super" = none := Facts.free T.b 29 "super"
theorem Tx.z_sorted (T : Tx K mg) : mg "sorted" = none := Facts.free T.b 30 "sorted"
theorem Tx.z_ValueError (T : Tx K mg) : mg "ValueError" = none := Facts.free T.b 31 "ValueError"
theorem Tx.g_LETTERS (T : Tx K mg) : ∃ u, mg "LETTERS" = some u ∧ RelV (.str "abcdefghijklmnopqrstuvwxyz") u := Facts.str T.b 32 "LETTERS" "abcdefghijklmnopqrstuvwxyz"
theorem Tx.g_RESERVED (T : Tx K mg) : ∃ u, mg "RESERVED" = some u ∧ RelV (.ref (He.ga K "RESERVED")) u := Facts.obj T.b 33 "RESERVED"
theorem Tx.t_RESERVED (T : Tx K mg) (H : Hp) : SqT K H (He.ga K "RESERVED") (c_RESERVED.map V.str) := He.tupB_ok (x := "RESERVED") (vs := c_RESERVED.map He.Dv.str) (Facts.exf T.b 0 x_RESERVED) H
theorem Tx.g_NAME_LENGTH (T : Tx K mg) : ∃ u, mg "NAME_LENGTH" = some u ∧ RelV (.int 12) u := Facts.int T.b 34 "NAME_LENGTH" 12
theorem Tx.m_BadName (T : Tx K mg) : mg "BadName" = some (.ref (He.ga K "BadName")) := Facts.glo T.b 35 "BadName"
theorem Tx.m_UnknownName (T : Tx K mg) : mg "UnknownName" = some (.ref (He.ga K "UnknownName")) := Facts.glo T.b 36 "UnknownName"
theorem Tx.m_UnknownKey (T : Tx K mg) : mg "UnknownKey" = some (.ref (He.ga K "UnknownKey")) := Facts.glo T.b 37 "UnknownKey"
theorem Tx.m_UnknownField (T : Tx K mg) : mg "UnknownField" = some (.ref (He.ga K "UnknownField")) := Facts.glo T.b 38 "UnknownField"
theorem Tx.m_UnknownShape (T : Tx K mg) : mg "UnknownShape" = some (.ref (He.ga K "UnknownShape")) := Facts.glo T.b 39 "UnknownShape"
theorem Tx.m_BadOrder (T : Tx K mg) : mg "BadOrder" = some (.ref (He.ga K "BadOrder")) := Facts.glo T.b 40 "BadOrder"
theorem Tx.m_ElseputError (T : Tx K mg) : mg "ElseputError" = some (.ref (He.ga K "ElseputError")) := Facts.glo T.b 41 "ElseputError"
theorem Tx.o_BadName (T : Tx K mg) : Own K "BadName" ["name"] := ownB_ok (Facts.exf T.b 1 xo_BadName)
theorem Tx.S_BadName (T : Tx K mg) : ∃ cc, SupF PP K mg (He.ma K (He.ga K "BadName") "__init__") (fdOf K ("BadName", some "__init__")) (i_BadName.nf K) (He.ga K "BadName") cc := FactsN.supF T 0 i_BadName (Facts.exf T.b 2 xi_BadName) T.o_BadName T.z_super
theorem Tx.I_BadName {w : World} {base : Heap} (T : Tx K mg) : FnOk PP w K mg base CX0 1 (He.ma K (He.ga K "BadName") "__init__") (fdOf K ("BadName", some "__init__")) ["self", "name"] (spI K (He.ga K "BadName") ["name"]) := by
  obtain ⟨cc, S⟩ := T.S_BadName
  exact fn_init1 S nsc_BadName rfl rfl rfl (by decide) (by decide)
theorem Tx.B_BadName (T : Tx K mg) : Binds K (fdOf K ("BadName", some "__init__")) ["self", "name"] [] := by
  obtain ⟨cc, S⟩ := T.S_BadName
  obtain ⟨oc, od, osl, doc, pm, ctv, e, _⟩ := S.fn
  rw [e]
  exact .all fun us hl => match us, hl with | [_, _], _ => rfl
theorem Tx.o_UnknownName (T : Tx K mg) : Own K "UnknownName" ["name"] := ownB_ok (Facts.exf T.b 3 xo_UnknownName)
theorem Tx.S_UnknownName (T : Tx K mg) : ∃ cc, SupF PP K mg (He.ma K (He.ga K "UnknownName") "__init__") (fdOf K ("UnknownName", some "__init__")) (i_UnknownName.nf K) (He.ga K "UnknownName") cc := FactsN.supF T 1 i_UnknownName (Facts.exf T.b 4 xi_UnknownName) T.o_UnknownName T.z_super
theorem Tx.I_UnknownName {w : World} {base : Heap} (T : Tx K mg) : FnOk PP w K mg base CX0 1 (He.ma K (He.ga K "UnknownName") "__init__") (fdOf K ("UnknownName", some "__init__")) ["self", "name"] (spI K (He.ga K "UnknownName") ["name"]) := by
  obtain ⟨cc, S⟩ := T.S_UnknownName
  exact fn_init1 S nsc_UnknownName rfl rfl rfl (by decide) (by decide)
theorem Tx.B_UnknownName (T : Tx K mg) : Binds K (fdOf K ("UnknownName", some "__init__")) ["self", "name"] [] := by
  obtain ⟨cc, S⟩ := T.S_UnknownName
  obtain ⟨oc, od, osl, doc, pm, ctv, e, _⟩ := S.fn
  rw [e]
  exact .all fun us hl => match us, hl with | [_, _], _ => rfl
theorem Tx.o_UnknownKey (T : Tx K mg) : OwnU K "UnknownKey" "UnknownName" ["name"] := ownUB_ok (Facts.exf T.b 5 xo_UnknownKey)
theorem Tx.S_UnknownKey (T : Tx K mg) : ∃ cc, SupF PP K mg (He.ma K (He.ga K "UnknownKey") "__init__") (fdOf K ("UnknownKey", some "__init__")) (i_UnknownKey.nf K) (He.ga K "UnknownKey") cc := FactsN.supFU T 2 i_UnknownKey (Facts.exf T.b 6 xi_UnknownKey) T.o_UnknownKey T.z_super
theorem Tx.I_UnknownKey {w : World} {base : Heap} (T : Tx K mg) : FnOk PP w K mg base CX0 2 (He.ma K (He.ga K "UnknownKey") "__init__") (fdOf K ("UnknownKey", some "__init__")) ["self", "name"] (spU K (He.ga K "UnknownKey") (He.ma K (He.ga K "UnknownName") "__init__") (He.ga K "UnknownName") ["name"]) := by
  obtain ⟨cc, S⟩ := T.S_UnknownKey
  exact fn_initU S nsc_UnknownKey rfl rfl rfl (by decide) (by decide) (T.I_UnknownName) T.B_UnknownName (fun _ _ _ _ _ => pass0)
theorem Tx.B_UnknownKey (T : Tx K mg) : Binds K (fdOf K ("UnknownKey", some "__init__")) ["self", "name"] [] := by
  obtain ⟨cc, S⟩ := T.S_UnknownKey
  obtain ⟨oc, od, osl, doc, pm, ctv, e, _⟩ := S.fn
  rw [e]
  exact .all fun us hl => match us, hl with | [_, _], _ => rfl
theorem Tx.o_UnknownField (T : Tx K mg) : OwnU K "UnknownField" "UnknownName" ["name"] := ownUB_ok (Facts.exf T.b 7 xo_UnknownField)
theorem Tx.S_UnknownField (T : Tx K mg) : ∃ cc, SupF PP K mg (He.ma K (He.ga K "UnknownField") "__init__") (fdOf K ("UnknownField", some "__init__")) (i_UnknownField.nf K) (He.ga K "UnknownField") cc := FactsN.supFU T 3 i_UnknownField (Facts.exf T.b 8 xi_UnknownField) T.o_UnknownField T.z_super
theorem Tx.I_UnknownField {w : World} {base : Heap} (T : Tx K mg) : FnOk PP w K mg base CX0 2 (He.ma K (He.ga K "UnknownField") "__init__") (fdOf K ("UnknownField", some "__init__")) ["self", "name"] (spU K (He.ga K "UnknownField") (He.ma K (He.ga K "UnknownName") "__init__") (He.ga K "UnknownName") ["name"]) := by
  obtain ⟨cc, S⟩ := T.S_UnknownField
  exact fn_initU S nsc_UnknownField rfl rfl rfl (by decide) (by decide) (T.I_UnknownName) T.B_UnknownName (fun _ _ _ _ _ => pass0)
theorem Tx.B_UnknownField (T : Tx K mg) : Binds K (fdOf K ("UnknownField", some "__init__")) ["self", "name"] [] := by
  obtain ⟨cc, S⟩ := T.S_UnknownField
  obtain ⟨oc, od, osl, doc, pm, ctv, e, _⟩ := S.fn
  rw [e]
  exact .all fun us hl => match us, hl with | [_, _], _ => rfl
theorem Tx.o_UnknownShape (T : Tx K mg) : OwnU K "UnknownShape" "UnknownName" ["name"] := ownUB_ok (Facts.exf T.b 9 xo_UnknownShape)
theorem Tx.S_UnknownShape (T : Tx K mg) : ∃ cc, SupF PP K mg (He.ma K (He.ga K "UnknownShape") "__init__") (fdOf K ("UnknownShape", some "__init__")) (i_UnknownShape.nf K) (He.ga K "UnknownShape") cc := FactsN.supFU T 4 i_UnknownShape (Facts.exf T.b 10 xi_UnknownShape) T.o_UnknownShape T.z_super
theorem Tx.I_UnknownShape {w : World} {base : Heap} (T : Tx K mg) : FnOk PP w K mg base CX0 2 (He.ma K (He.ga K "UnknownShape") "__init__") (fdOf K ("UnknownShape", some "__init__")) ["self", "name"] (spU K (He.ga K "UnknownShape") (He.ma K (He.ga K "UnknownName") "__init__") (He.ga K "UnknownName") ["name"]) := by
  obtain ⟨cc, S⟩ := T.S_UnknownShape
  exact fn_initU S nsc_UnknownShape rfl rfl rfl (by decide) (by decide) (T.I_UnknownName) T.B_UnknownName (fun _ _ _ _ _ => pass0)
theorem Tx.B_UnknownShape (T : Tx K mg) : Binds K (fdOf K ("UnknownShape", some "__init__")) ["self", "name"] [] := by
  obtain ⟨cc, S⟩ := T.S_UnknownShape
  obtain ⟨oc, od, osl, doc, pm, ctv, e, _⟩ := S.fn
  rw [e]
  exact .all fun us hl => match us, hl with | [_, _], _ => rfl
theorem Tx.o_BadOrder (T : Tx K mg) : Own K "BadOrder" [] := ownB_ok (Facts.exf T.b 11 xo_BadOrder)
theorem Tx.S_BadOrder (T : Tx K mg) : ∃ cc, SupF PP K mg (He.ma K (He.ga K "BadOrder") "__init__") (fdOf K ("BadOrder", some "__init__")) (i_BadOrder.nf K) (He.ga K "BadOrder") cc := FactsN.supF T 5 i_BadOrder (Facts.exf T.b 12 xi_BadOrder) T.o_BadOrder T.z_super
theorem Tx.I_BadOrder {w : World} {base : Heap} (T : Tx K mg) : FnOk PP w K mg base CX0 1 (He.ma K (He.ga K "BadOrder") "__init__") (fdOf K ("BadOrder", some "__init__")) ["self"] (spN0 K (He.ga K "BadOrder")) := by
  obtain ⟨cc, S⟩ := T.S_BadOrder
  exact fn_init0 S nsc_BadOrder rfl rfl rfl
theorem Tx.B_BadOrder (T : Tx K mg) : Binds K (fdOf K ("BadOrder", some "__init__")) ["self"] [] := by
  obtain ⟨cc, S⟩ := T.S_BadOrder
  obtain ⟨oc, od, osl, doc, pm, ctv, e, _⟩ := S.fn
  rw [e]
  exact .all fun us hl => match us, hl with | [_], _ => rfl
theorem Tx.m_KeyOrder (T : Tx K mg) : mg "KeyOrder" = some (.ref (He.ga K "KeyOrder")) := Facts.glo T.b 42 "KeyOrder"
theorem Tx.cl_KeyOrder (T : Tx K mg) : Cls K (He.ga K "KeyOrder") := He.cls_ok (Facts.fct T.b 43 (.cls "KeyOrder"))
theorem Tx.n_KeyOrder_names (T : Tx K mg) : NoAttr K (He.ga K "KeyOrder") "names" := He.noat_ok (Facts.fct T.b 44 (.noat "KeyOrder" "names"))
theorem Tx.mk_KeyOrder (T : Tx K mg) : Mk K (He.ga K "KeyOrder") (He.ma K (He.ga K "KeyOrder") "__init__") := He.mkr_ok (Facts.fct T.b 45 (.mkr "KeyOrder"))
theorem Tx.me_KeyOrder_init (T : Tx K mg) : Meth K (He.ga K "KeyOrder") "__init__" (He.fAd K at_KeyOrderU_initU) := He.meth_ok (Facts.fct T.b 46 (.meth "KeyOrder" "__init__"))
theorem Tx.me_KeyOrder_getitem (T : Tx K mg) : Meth K (He.ga K "KeyOrder") "__getitem__" (He.fAd K at_KeyOrderU_getitemU) := He.meth_ok (Facts.fct T.b 47 (.meth "KeyOrder" "__getitem__"))
theorem Tx.me_KeyOrder_contains (T : Tx K mg) : Meth K (He.ga K "KeyOrder") "__contains__" (He.fAd K at_KeyOrderU_containsU) := He.meth_ok (Facts.fct T.b 48 (.meth "KeyOrder" "__contains__"))
theorem Tx.me_KeyOrder_iter (T : Tx K mg) : Meth K (He.ga K "KeyOrder") "__iter__" (He.fAd K at_KeyOrderU_iterU) := He.meth_ok (Facts.fct T.b 49 (.meth "KeyOrder" "__iter__"))
theorem Tx.me_KeyOrder_len (T : Tx K mg) : Meth K (He.ga K "KeyOrder") "__len__" (He.fAd K at_KeyOrderU_lenU) := He.meth_ok (Facts.fct T.b 50 (.meth "KeyOrder" "__len__"))
theorem Tx.me_KeyOrder_call (T : Tx K mg) : Meth K (He.ga K "KeyOrder") "__call__" (He.fAd K at_KeyOrderU_callU) := He.meth_ok (Facts.fct T.b 51 (.meth "KeyOrder" "__call__"))
theorem Tx.x_getitem (T : Tx K mg) : (PySem.W.fnIn K (He.ma K (He.ga K "KeyOrder") "__getitem__")) = true := Facts.exf T.b 13 xm_getitem
theorem Tx.x_isfn (T : Tx K mg) : (PySem.W.isFn K (.ref (He.fAd K ("KeyOrder", some "__call__")))) = true := Facts.exf T.b 14 xm_isfn
theorem Tx.x_fnin (T : Tx K mg) : (PySem.W.fnIn K (He.fAd K ("KeyOrder", some "__call__"))) = true := Facts.exf T.b 15 xm_fnin
theorem Tx.x_callat (T : Tx K mg) : (decide (PySem.W.findIn K (.ref (He.ga K "KeyOrder")) "__call__" = some (some (.ref (He.fAd K ("KeyOrder", some "__call__")))))) = true := Facts.exf T.b 16 xm_callat
theorem Tx.c_BadName_ElseputError (T : Tx K mg) : PySem.W.exmOne K (.ref (He.ga K "BadName")) (.ref (He.ga K "ElseputError")) = some true := He.exm_ok (Facts.fct T.b 52 (.exm "BadName" "ElseputError" true))
theorem Tx.c_BadOrder_ElseputError (T : Tx K mg) : PySem.W.exmOne K (.ref (He.ga K "BadOrder")) (.ref (He.ga K "ElseputError")) = some true := He.exm_ok (Facts.fct T.b 53 (.exm "BadOrder" "ElseputError" true))
theorem Tx.c_UnknownKey_UnknownKey (T : Tx K mg) : PySem.W.exmOne K (.ref (He.ga K "UnknownKey")) (.ref (He.ga K "UnknownKey")) = some true := He.exm_ok (Facts.fct T.b 54 (.exm "UnknownKey" "UnknownKey" true))
theorem Tx.k_BadName_BadName (T : Tx K mg) : PySem.W.kitOne K (.ref (He.ga K "BadName")) (.ref (He.ga K "BadName")) = some true := of_decide_eq_true (Facts.exf T.b 17 xk_BadName_BadName)
theorem Tx.k_BadName_BadOrder (T : Tx K mg) : PySem.W.kitOne K (.ref (He.ga K "BadName")) (.ref (He.ga K "BadOrder")) = some false := of_decide_eq_true (Facts.exf T.b 18 xk_BadName_BadOrder)
theorem Tx.k_BadName_ValueError (T : Tx K mg) : PySem.W.kitOne K (.ref (He.ga K "BadName")) (.type "ValueError") = some true := of_decide_eq_true (Facts.exf T.b 19 xk_BadName_ValueError)
theorem Tx.k_BadOrder_ValueError (T : Tx K mg) : PySem.W.kitOne K (.ref (He.ga K "BadOrder")) (.type "ValueError") = some true := of_decide_eq_true (Facts.exf T.b 20 xk_BadOrder_ValueError)
theorem Tx.k_BadName_UnknownName (T : Tx K mg) : PySem.W.kitOne K (.ref (He.ga K "BadName")) (.ref (He.ga K "UnknownName")) = some false := of_decide_eq_true (Facts.exf T.b 21 xk_BadName_UnknownName)
theorem Tx.k_BadOrder_UnknownName (T : Tx K mg) : PySem.W.kitOne K (.ref (He.ga K "BadOrder")) (.ref (He.ga K "UnknownName")) = some false := of_decide_eq_true (Facts.exf T.b 22 xk_BadOrder_UnknownName)
theorem Tx.k_BadOrder_BadName (T : Tx K mg) : PySem.W.kitOne K (.ref (He.ga K "BadOrder")) (.ref (He.ga K "BadName")) = some false := of_decide_eq_true (Facts.exf T.b 23 xk_BadOrder_BadName)
theorem Tx.k_BadOrder_BadOrder (T : Tx K mg) : PySem.W.kitOne K (.ref (He.ga K "BadOrder")) (.ref (He.ga K "BadOrder")) = some true := of_decide_eq_true (Facts.exf T.b 24 xk_BadOrder_BadOrder)
theorem Tx.k_UnknownKey_UnknownName (T : Tx K mg) : PySem.W.kitOne K (.ref (He.ga K "UnknownKey")) (.ref (He.ga K "UnknownName")) = some true := of_decide_eq_true (Facts.exf T.b 25 xk_UnknownKey_UnknownName)
theorem Tx.k_UnknownKey_UnknownField (T : Tx K mg) : PySem.W.kitOne K (.ref (He.ga K "UnknownKey")) (.ref (He.ga K "UnknownField")) = some false := of_decide_eq_true (Facts.exf T.b 26 xk_UnknownKey_UnknownField)
theorem Tx.k_UnknownKey_UnknownShape (T : Tx K mg) : PySem.W.kitOne K (.ref (He.ga K "UnknownKey")) (.ref (He.ga K "UnknownShape")) = some false := of_decide_eq_true (Facts.exf T.b 27 xk_UnknownKey_UnknownShape)
end
end K24
namespace K24
open PySem PySem.Spec PyProof.Rows L2 TK
abbrev letters : Str := "abcdefghijklmnopqrstuvwxyz"
/-- what is_name tells -/
def isName (x : Str) : Bool :=
  if decide (V.str x = V.str "") = true then false else if decide ((12 : Int) < (x.length : Int)) = true then false else if inV (.str x) (c_RESERVED.map V.str) = true then false else x.cps.toList.all fun c => decide (c ∈ letters.cps.toList)
def sp_is_name : Sp := fun vs H Q _ => ∃ x : Str, vs = [.str x] ∧ x.length ≤ sizeLine ∧ Q (.bl (isName x)) H
def sp_check_name (K : PySem.W.Frag) : Sp := fun vs H Q E => ∃ x : Str, vs = [.str x] ∧ x.length ≤ sizeLine ∧ (isName x = true → Q (.str x) H) ∧
  (isName x = false → ∀ d, H d = none → E (.ref (He.ga K "BadName")) (some d) (upd H d (.xd [("name", .str x)])))
section
variable {P : Program} {w : World} {K : PySem.W.Frag} {mg : Str → Option Value} {base : Heap}
theorem ok_is_name (T : Tx K mg) : FnOk P w K mg base CX0 1 (He.fAd K at_is_name) (fdOf K at_is_name) ["text"] sp_is_name := by
  refine T.F_is_name.ok sc_is_name (fun vs H Q E h => ?_) (fun cdv A outer s H vs Q E hr h => ?_)
  · obtain ⟨_, rfl, _⟩ := h
    rfl
  obtain ⟨x, rfl, hl, k⟩ := h
  refine ⟨_, PSs.nox (pss_cons (ps_if (PW.pt (pw_or (pt_cmpR op_eqA (pv 0) pe_str (nomark _)) (pw_or (pt_cmpR op_gt (pe_callB call_lenA (by rfl) T.z_len PySem.boot_len (pa_cons (pv 0) pa_nil)) (pe_globE (by rfl) T.g_NAME_LENGTH) (nomark _)) (pw_or1 (pt_cmpR op_inA (pv 0) (pe_globE (by rfl) T.g_RESERVED) (by rfl))))))
     (pss_one (ps_ret pe_bl))
     pss_nil)
    (pss_cons (ps_for PassesOwn.never rfl (pi_str (pv 0)) (pg_name (i := 1) sc_is_name.nd rfl (by first | exact .inl rfl | exact .inr rfl))
     (pss_one (ps_if (pt_cmpR op_ninA (pv 1) (pe_globE (by rfl) T.g_LETTERS) (by rfl))
      (pss_one (ps_ret pe_bl))
      pss_nil)))
    (pss_one (ps_ret pe_bl)))), ?_⟩
  have tR := T.t_RESERVED H
  dsimp only [cxOf, Cx.nox, Cx.wish, L2.start, List.map, List.length, List.replicate, List.append]
  walk_at "rd"
  refine ite2 (fun e1 => ?_) (fun e1 => ?_)
  · walk_at "rd"
    have z : isName x = false := by rw [isName, if_pos e1]
    rw [z] at k
    exact k
  walk_at "rd"
  refine ite2 (fun e2 => ?_) (fun e2 => ?_)
  · walk_at "rd"
    have z : isName x = false := by rw [isName, if_neg e1, if_pos e2]
    rw [z] at k
    exact k
  walk_at "rd"
  refine ite2 (fun e3 => ?_) (fun e3 => ?_)
  · walk_at "rd"
    have z : isName x = false := by rw [isName, if_neg e1, if_neg e2, if_pos e3]
    rw [z] at k
    exact k
  walk_at "rd"
  have z : isName x = x.cps.toList.all fun c => decide (c ∈ letters.cps.toList) := by rw [isName, if_neg e1, if_neg e2, if_neg e3]
  refine for_str (fun i σ H' => Here (∃ c, σ = [some (.str x), c] ∧ H' = H ∧ (x.cps.toList.take i).all (fun c => decide (c ∈ letters.cps.toList)) = true)) (.mk ⟨none, rfl, rfl, rfl⟩) (fun i c σ H' hc p => ?_) (fun σ H' p => ?_)
  · obtain ⟨_, rfl, rfl, pa⟩ := p.out
    walk_at "rd"
    refine ite2 (fun e => ?_) (fun e => ?_)
    · walk_at "rd"
      rw [z, not_all (cps_at hc) (by simpa using e)] at k
      exact k
    · exact .mk ⟨_, rfl, rfl, all_take (cps_at hc) pa (by simpa using e)⟩
  · obtain ⟨_, rfl, rfl, pa⟩ := p.out
    walk_at "rd"
    rw [z] at k
    have : x.cps.toList.take x.cps.size = x.cps.toList := by rw [← Array.length_toList, List.take_length]
    rw [this] at pa
    rw [pa] at k
    exact k
theorem ok_check_name (T : Tx K mg) : FnOk PP w K mg base (L2.CX PP w) 3 (He.fAd K at_check_name) (fdOf K at_check_name) ["text"] (sp_check_name K) := by
  have G_is_name := ok_is_name (P := PP) (w := w) (base := base) T
  refine T.F_check_name.ok sc_check_name (fun vs H Q E h => ?_) (fun cdv A outer s H vs Q E hr h => ?_)
  · obtain ⟨_, rfl, _⟩ := h
    rfl
  obtain ⟨x, rfl, hl, k, kE⟩ := h
  refine ⟨_, (pss_cons (ps_if (pt_not (pt_val (pe_call G_is_name (hr.mono (by first | decide | omega)) (by rfl) T.m_is_name T.F_is_name.kp T.b_is_name .nil pass0 (pa_cons (pv 0) pa_nil))))
     (pss_one (ps_raise rfl (takes_of rfl rfl rfl rfl) (pmk_flds T.o_BadName.v T.o_BadName.i T.o_BadName.t T.o_BadName.n T.I_BadName (hr.mono (by first | decide | omega)) T.B_BadName pass0 (by rfl) T.m_BadName (pa_cons (pv 0) pa_nil))))
     pss_nil)
    (pss_one (ps_ret (pv 0)))), ?_⟩
  dsimp only [cxOf, Cx.nox, Cx.wish, L2.start, List.map, List.length, List.replicate, List.append]
  walk_at "rd"
  refine ite2 (fun e => ?_) (fun e => ?_)
  · walk_at "rd"
    exact kE (by simpa using e)
  · walk_at "rd"
    exact k (by simpa using e)
end
end K24
namespace K24
open PySem PySem.Spec PyProof.Rows L2 TK
section
variable {P : Program} {w : World} {K : PySem.W.Frag} {mg : Str → Option Value} {base : Heap}
theorem ok_law_state (T : Tx K mg) : FnOk P w K mg base CX0 1 (He.fAd K at_law_state) (fdOf K at_law_state) ["script"] (sp_state K) := by
  refine state_seal (T.F_law_state.ok sc_law_state (fun vs H Q E h => ?_) (fun cdv A outer s H vs Q E hr h => ?_))
  · obtain ⟨a, ns, rfl, _⟩ := h
    rfl
  obtain ⟨a, ns, rfl, hS, hl, k⟩ := h
  refine ⟨_, PSs.nox (pss_one (ps_ret (pe_lst (pa_cons (pe_callTy call_list_of (by rfl) T.z_list (by decide +kernel) (pa_cons (pv 0) pa_nil)) (pa_cons pe_int (pa_cons pe_int (pa_cons pe_int (pa_cons pe_int pa_nil)))))))), ?_⟩
  refine ⟨_, rfl, a, _, rfl, .inl hS, fun q nq => ?_⟩
  refine ⟨Nat.le_of_ble_eq_true rfl, fun st nst => ?_⟩
  have nqs : q ≠ st := ne_of_none upd_same nst
  refine k q st _ ((same_new nq).trans (same_new nst)) ((same_new nq).free nst) (by walk_at "hp") upd_same
theorem ok_law_draw (T : Tx K mg) : FnOk P w K mg base CX0 1 (He.fAd K at_law_draw) (fdOf K at_law_draw) ["state", "many"] sp_draw := by
  refine draw_view (T.F_law_draw.ok sc_law_draw (fun vs H Q E h => ?_) (fun cdv A outer s H vs Q E hr h => ?_))
  · obtain ⟨_, _, _, _, _, rfl, _⟩ := h
    rfl
  obtain ⟨st, q, ns, xs, many, rfl, hl, hq, hst, ⟨i, v, m, c, rfl, h0, h1⟩, m0, m1, k⟩ := h
  refine ⟨_, PSs.nox (pss_cutT (ps_if (pt_cmpR op_eqA (pe_ix ix_A (pv 0) pe_int (fun _ _ => rfl)) pe_int (nomark _))
     (pss_cons (ps_if (pt_cmpR op_ge (pe_ix ix_A (pv 0) pe_int (fun _ _ => rfl)) (pe_callB call_lenA (by rfl) T.z_len PySem.boot_len (pa_cons (pe_ix ix_A (pv 0) pe_int (fun _ _ => rfl)) pa_nil)) (nomark _))
      (pss_one (ps_ret pe_int))
      pss_nil)
     (pss_cons (ps_asg (pe_callTy call_int1 (by rfl) T.z_int (by decide +kernel) (pa_cons (pe_ix ix_A (pe_ix ix_A (pv 0) pe_int (fun _ _ => rfl)) (pe_ix ix_A (pv 0) pe_int (fun _ _ => rfl)) (fun _ _ => rfl)) pa_nil)) (pg_sub (pv 0) pe_int set_A))
     (pss_cons (ps_asg (pe_op op_addA (pe_ix ix_A (pv 0) pe_int (fun _ _ => rfl)) pe_int) (pg_sub (pv 0) pe_int set_A))
     (pss_cons (ps_asg pe_int (pg_sub (pv 0) pe_int set_A))
     (pss_cons (ps_asg pe_int (pg_sub (pv 0) pe_int set_A))
     (pss_one (ps_if (pt_cmpR op_ltA (pe_ix ix_A (pv 0) pe_int (fun _ _ => rfl)) (pe_op op_pow pe_int pe_int) (nomark _))
      (pss_one (ps_asg pe_int (pg_sub (pv 0) pe_int set_A)))
      pss_nil)))))))
     pss_nil)
    (pss_cons (ps_asg (pe_op op_addA (pe_ix ix_A (pv 0) pe_int (fun _ _ => rfl)) pe_int) (pg_sub (pv 0) pe_int set_A))
    (pss_cons (ps_if (pt_cmpR op_eqA (pe_ix ix_A (pv 0) pe_int (fun _ _ => rfl)) pe_int (nomark _))
     (pss_cons (ps_set (i := 2) sc_law_draw.nd rfl (by first | exact .inl rfl | exact .inr rfl) (pe_op op_mod (pe_callTy call_int1 (by rfl) T.z_int (by decide +kernel) (pa_cons (pe_ix ix_A (pv 0) pe_int (fun _ _ => rfl)) pa_nil)) (pv 1)))
     (pss_cons (ps_asg (pe_op op_fdivW (pe_callTy call_int1 (by rfl) T.z_int (by decide +kernel) (pa_cons (pe_ix ix_A (pv 0) pe_int (fun _ _ => rfl)) pa_nil)) (pv 1)) (pg_sub (pv 0) pe_int set_A))
     (pss_cons (ps_if (PW.pt (pw_or (pt_cmpR op_eqA (pe_ix ix_A (pv 0) pe_int (fun _ _ => rfl)) pe_int (nomark _)) (pw_or1 (pt_cmpR op_ge (pe_ix ix_A (pv 0) pe_int (fun _ _ => rfl)) pe_int (nomark _)))))
      (pss_one (ps_asg pe_int (pg_sub (pv 0) pe_int set_A)))
      pss_nil)
     (pss_one (ps_ret (pv 2))))))
     pss_nil)
    (pss_cons (ps_set (i := 3) sc_law_draw.nd rfl (by first | exact .inl rfl | exact .inr rfl) (pe_op op_mod (pe_callTy call_int1 (by rfl) T.z_int (by decide +kernel) (pa_cons (pe_op op_addA (pe_op op_mulA (pe_ix ix_A (pv 0) pe_int (fun _ _ => rfl)) pe_int) (pe_op op_mulA (pe_ix ix_A (pv 0) pe_int (fun _ _ => rfl)) pe_int)) pa_nil)) pe_int))
    (pss_cons (ps_set (i := 4) sc_law_draw.nd rfl (by first | exact .inl rfl | exact .inr rfl) (pe_op op_mod (pe_callTy call_int1 (by rfl) T.z_int (by decide +kernel) (pa_cons (pe_op op_addA (pe_op op_addA (pe_op op_mulA (pv 3) (pv 3)) (pe_op op_mulA (pe_ix ix_A (pv 0) pe_int (fun _ _ => rfl)) pe_int)) pe_int) pa_nil)) pe_int))
    (pss_cutT (ps_if (pt_cmpR op_ge (pe_ix ix_A (pv 0) pe_int (fun _ _ => rfl)) pe_int (nomark _))
     (pss_one (ps_asg pe_int (pg_sub (pv 0) pe_int set_A)))
     pss_nil)
    (pss_cons (ps_set (i := 5) sc_law_draw.nd rfl (by first | exact .inl rfl | exact .inr rfl) (pe_op op_mod (pe_callTy call_int1 (by rfl) T.z_int (by decide +kernel) (pa_cons (pe_op op_addA (pe_op op_mulA (pv 4) pe_int) (pv 3)) pa_nil)) pe_int))
    (pss_one (ps_ret (pe_op op_mod (pe_callTy call_int1 (by rfl) T.z_int (by decide +kernel) (pa_cons (pv 5) pa_nil)) (pv 1))))))))))), ?_⟩
  have nq : q ≠ st := fun e => by
    subst e
    rw [hq] at hst
    injection hst with e
    injection e with e
    cases ns with
    | nil => cases e
    | cons n r => cases e
  dsimp only [cxOf, Cx.nox, Cx.wish, L2.start, List.map, List.length, List.replicate, List.append]
  refine ⟨fun σ H' => Here (∃ i v m c, σ = [some (.ref st), some (.int many), none, none, none, none] ∧ H' st = some (.lst [.ref q, .int i, .int v, .int m, .int c]) ∧ 0 ≤ i ∧ i ≤ (ns.length : Int) ∧ (∀ b o, b ≠ st → H b = some o → H' b = some o)), ?_, fun σ H' hM => ?_⟩
  · walk_at "rd"
    refine ite2 (fun e => ?_) (fun e => ?_)
    · walk_at "rd"
      refine ite2 (fun e => ?_) (fun e => ?_)
      · exact k 0 _ _ hst ⟨i, v, m, c, rfl, h0, h1⟩ (fun _ _ _ e => e) (Int.le_refl _) m0
      · have hi : i < (ns.length : Int) := by
          have q := of_decide_eq_false (Bool.eq_false_iff.mpr e)
          rw [List.length_map] at q
          omega
        have hx := at_ints h0 hi
        walk_at "rd"
        refine ite2 (fun e => ?_) (fun e => ?_)
        · walk_at "rd"
          exact .mk ⟨_, _, _, _, rfl, upd_same, by omega, by omega, fun b o nb e => by rw [upd_upd, upd_upd, upd_upd, upd_upd, upd_ne nb]; exact e⟩
        · exact .mk ⟨_, _, _, _, rfl, upd_same, by omega, by omega, fun b o nb e => by rw [upd_upd, upd_upd, upd_upd, upd_ne nb]; exact e⟩
    · exact .mk ⟨i, v, m, c, rfl, hst, h0, h1, fun _ _ _ e => e⟩
  · obtain ⟨i, v, m, c, rfl, hst, h0, h1, kp⟩ := hM.out
    walk_at "rd"
    refine ite2 (fun e => ?_) (fun e => ?_)
    · walk_at "rd"
      refine ite2 (fun e => ?_) (fun e => ?_)
      · refine iteT ?_
        walk_at "rd"
        exact k _ _ _ upd_same ⟨i, _, _, _, rfl, h0, h1⟩ (fun b o nb e => by rw [upd_upd, upd_upd, upd_ne nb]; exact kp b o nb e) (emod_ge' m0) (emod_lt' m0)
      · walk_at "rd"
        refine ite2 (fun e => ?_) (fun e => ?_)
        · walk_at "rd"
          exact k _ _ _ upd_same ⟨i, _, _, _, rfl, h0, h1⟩ (fun b o nb e => by rw [upd_upd, upd_upd, upd_ne nb]; exact kp b o nb e) (emod_ge' m0) (emod_lt' m0)
        · walk_at "rd"
          exact k _ _ _ upd_same ⟨i, _, _, _, rfl, h0, h1⟩ (fun b o nb e => by rw [upd_upd, upd_ne nb]; exact kp b o nb e) (emod_ge' m0) (emod_lt' m0)
    · walk_at "rd"
      refine ⟨fun σ H' => Here (∃ i v m c x y, σ = [some (.ref st), some (.int many), none, some (.int x), some (.int y), none] ∧ 0 ≤ y ∧ y < 2147483399 ∧ H' st = some (.lst [.ref q, .int i, .int v, .int m, .int c]) ∧ 0 ≤ i ∧ i ≤ (ns.length : Int) ∧ (∀ b o, b ≠ st → H b = some o → H' b = some o)), ?_, fun σ H' hM => ?_⟩
      · walk_at "rd"
        refine ite2 (fun e => ?_) (fun e => ?_)
        · walk_at "rd"
          exact .mk ⟨_, _, _, _, _, _, rfl, emod_ge' (by decide), emod_lt' (by decide), upd_same, h0, h1, fun b o nb e => by rw [upd_upd, upd_ne nb]; exact kp b o nb e⟩
        · exact .mk ⟨_, _, _, _, _, _, rfl, emod_ge' (by decide), emod_lt' (by decide), upd_same, h0, h1, fun b o nb e => by rw [upd_ne nb]; exact kp b o nb e⟩
      · obtain ⟨i, v, m, c, x, y, rfl, hy0, hy1, hst, h0, h1, kp⟩ := hM.out
        walk_at "rd"
        exact k _ _ _ hst ⟨i, _, _, _, rfl, h0, h1⟩ kp (emod_ge' m0) (emod_lt' m0)

theorem ok_law_pick (T : Tx K mg) : FnOk P w K mg base CX0 2 (He.fAd K at_law_pick) (fdOf K at_law_pick) ["state", "row"] (sp_pick K) := by
  have G_law_draw := ok_law_draw (P := P) (w := w) (base := base) T
  refine T.F_law_pick.ok sc_law_pick (fun vs H Q E h => ?_) (fun cdv A outer s H vs Q E hr h => ?_)
  · obtain ⟨_, _, rfl, _⟩ := h
    rfl
  obtain ⟨st, row, rfl, hst, h⟩ := h
  refine ⟨_, PSs.nox (pss_one (ps_ret (pe_ix ix_A (pv 1) (pe_call G_law_draw (hr.mono (by first | decide | omega)) (by rfl) T.m_law_draw T.F_law_draw.kp T.b_law_draw .nil pass0 (pa_cons (pv 0) (pa_cons (pe_callB call_lenA (by rfl) T.z_len PySem.boot_len (pa_cons (pv 1) pa_nil)) pa_nil))) (fun _ _ => rfl)))), ?_⟩
  dsimp only [cxOf, Cx.nox, Cx.wish, L2.start, List.map, List.length, List.replicate, List.append]
  rcases h with ⟨z, rfl, z0, z1, k⟩ | ⟨p, xs, rfl, hp, z0, z1, k⟩
  · have hb := line_big z1
    walk_at "rd"
    intro d H1 s1 d0 d1
    obtain ⟨c, e, m⟩ := at_str d0 d1
    exact .inr (.inr ⟨z, d, c, rfl, rfl, z1, e, k c H1 s1 m⟩)
  · have hb := line_big z1
    have hl : 0 < xs.length := List.length_pos_iff.mpr z0
    walk_at "rd"
    intro d H1 s1 d0 d1
    obtain ⟨v, e, _, m⟩ := at_list d0 d1
    exact .inl ⟨p, xs, d, v, rfl, rfl, SqL.of (s1 _ _ hp), e, k v H1 s1 m⟩

theorem cutV_to {xs : List V} {i : Int} (h0 : 0 ≤ i) : cutV xs none (some i) = xs.take i.toNat := by
  unfold cutV
  show List.take (HT.sIx xs.length xs.length (some i) - HT.sIx xs.length 0 none) (List.drop (HT.sIx xs.length 0 none) xs) = _
  rw [HT.sIx_none, sIx_nat' _ _ _ h0, List.drop_zero, Nat.sub_zero, ← List.take_eq_take_min]
theorem cutV_from {xs : List V} {i : Int} (h0 : 0 ≤ i) : cutV xs (some i) none = xs.drop i.toNat := by
  unfold cutV
  show List.take (HT.sIx xs.length xs.length none - HT.sIx xs.length 0 (some i)) (List.drop (HT.sIx xs.length 0 (some i)) xs) = _
  rw [HT.sIx_none, sIx_nat' _ _ _ h0]
  by_cases h : i.toNat ≤ xs.length
  · rw [Nat.min_eq_left h]
    exact List.take_of_length_le (by rw [List.length_drop]; exact Nat.le_refl _)
  · have e1 : List.drop (min i.toNat xs.length) xs = [] := List.drop_of_length_le (by omega)
    have e2 : List.drop i.toNat xs = [] := List.drop_of_length_le (by omega)
    rw [e1, e2]
    simp
/-- the same items in some order -/
def sp_mixed (K : PySem.W.Frag) : Sp := fun vs H Q _ => ∃ (st p : Addr) (xs : List V), vs = [.ref st, .ref p] ∧ StAt H st ∧ SqL K H p xs ∧ xs.length ≤ 1000 ∧ ∀ (q : Addr) (ys : List V) (H' : Hp), Same H H' → H q = none → H' q = some (.lst ys) → ys.Perm xs → Q (.ref q) H'
theorem ok_law_mixed (T : Tx K mg) : FnOk P w K mg base CX0 2 (He.fAd K at_law_mixed) (fdOf K at_law_mixed) ["state", "row"] (sp_mixed K) := by
  have G_law_draw := ok_law_draw (P := P) (w := w) (base := base) T
  refine T.F_law_mixed.ok sc_law_mixed (fun vs H Q E h => ?_) (fun cdv A outer s H vs Q E hr h => ?_)
  · obtain ⟨_, _, _, rfl, _⟩ := h
    rfl
  obtain ⟨st, p, xs, rfl, hst, hS, hl, k⟩ := h
  refine ⟨_, PSs.nox (pss_cons (ps_set (i := 2) sc_law_mixed.nd rfl (by first | exact .inl rfl | exact .inr rfl) (pe_callTy call_list_of (by rfl) T.z_list (by decide +kernel) (pa_cons (pv 1) pa_nil)))
    (pss_cons (ps_set (i := 3) sc_law_mixed.nd rfl (by first | exact .inl rfl | exact .inr rfl) (pe_lst pa_nil))
    (pss_cons (ps_for PassesOwn.never rfl (pi_range1 rfl T.z_range (pa_cons (pe_callB call_lenA (by rfl) T.z_len PySem.boot_len (pa_cons (pv 1) pa_nil)) pa_nil)) (pg_name (i := 4) sc_law_mixed.nd rfl (by first | exact .inl rfl | exact .inr rfl))
     (pss_cons (ps_set (i := 5) sc_law_mixed.nd rfl (by first | exact .inl rfl | exact .inr rfl) (pe_call G_law_draw (hr.mono (by first | decide | omega)) (by rfl) T.m_law_draw T.F_law_draw.kp T.b_law_draw .nil pass0 (pa_cons (pv 0) (pa_cons (pe_callB call_lenA (by rfl) T.z_len PySem.boot_len (pa_cons (pv 2) pa_nil)) pa_nil))))
     (pss_cons (ps_expr (pe_bm PySem.F.plainAttrs_list PySem.F.slot_list_append PySem.F.type_list_append mt_append (pv 3) (pa_cons (pe_ix ix_A (pv 2) (pv 5) (fun _ _ => rfl)) pa_nil)))
     (pss_one (ps_set (i := 2) sc_law_mixed.nd rfl (by first | exact .inl rfl | exact .inr rfl) (pe_op op_addA (pe_slice sl_A (pv 2) po_none (po_some (pv 5))) (pe_slice sl_A (pv 2) (po_some (pe_op op_addA (pv 5) pe_int)) po_none)))))))
    (pss_one (ps_ret (pv 3)))))), ?_⟩
  dsimp only [cxOf, Cx.nox, Cx.wish, L2.start, List.map, List.length, List.replicate, List.append]
  walk_at "rd"
  refine ⟨p, xs, rfl, .inl hS, fun r nr => ?_⟩
  walk_at "rd"
  intro q nq
  have nrq : r ≠ q := ne_of_none upd_same nq
  have hq0 : H q = none := (same_new nr).free nq
  have sm : Same H (upd (upd H r (.lst xs)) q (.lst [])) := (same_new nr).trans (same_new nq)
  have hS := sm.seq hS
  have hst0 := hst
  have hst := hst.mono sm
  walk_at "rd"
  refine for_range (fun i σ H' => Here (∃ (r : Addr) (rs ys : List V) (o o' : Option V), σ = [some (.ref st), some (.ref p), some (.ref r), some (.ref q), o, o'] ∧ Same H H' ∧ H' r = some (.lst rs) ∧ H' q = some (.lst ys) ∧ r ≠ q ∧ (ys ++ rs).Perm xs ∧ ys.length = i))
    (.mk ⟨r, xs, [], none, none, rfl, sm, by rw [upd_ne nrq]; exact upd_same, upd_same, nrq, .refl _, rfl⟩) (fun i σ H' hi z => ?_) (fun σ H' z => ?_)
  · obtain ⟨r, rs, ys, o, o', rfl, s1, hr1, hq1, nrq, hp, hy⟩ := z.out
    have hlen : ys.length + rs.length = xs.length := by rw [← List.length_append]; exact hp.length_eq
    have hst := hst0.mono s1
    walk_at "rd"
    intro d H1 s2 d0 d1
    obtain ⟨v, ev, ei, mv⟩ := at_list (xs := rs) d0 d1
    have hr2 := s2 _ _ hr1
    have hq2 := s2 _ _ hq1
    have zy : ys.length < sizeLine := by rw [sizeLine_eq]; omega
    have zr : rs.length ≤ sizeLine := by rw [sizeLine_eq]; omega
    walk_at "rd"
    refine ⟨.inl ⟨rfl, _, SqL.of hq2⟩, ?_⟩
    walk_at "rd"
    refine ⟨q, ys, v, rfl, rfl, hq2, zy, ?_⟩
    have hr3 : upd H1 q (.lst (ys ++ [v])) r = some (.lst rs) := by rw [upd_ne nrq]; exact hr2
    walk_at "rd"
    refine .inr (.inl ⟨r, rs, rfl, SqL.of hr3, fun a na => ?_⟩)
    have hr4 : upd (upd H1 q (.lst (ys ++ [v]))) a (.lst (cutV rs none (some d))) r = some (.lst rs) := by rw [upd_ne (ne_of_none hr3 na)]; exact hr3
    walk_at "rd"
    refine .inr (.inl ⟨r, rs, rfl, SqL.of hr4, fun b nb => ?_⟩)
    have nab : a ≠ b := ne_of_none upd_same nb
    have c1 : cutV rs none (some d) = rs.take d.toNat := cutV_to d0
    have c2 : cutV rs (some (d + 1)) none = rs.drop (d + 1).toNat := cutV_from (by omega)
    have zc : (cutV rs none (some d)).length + (cutV rs (some (d + 1)) none).length ≤ sizeLine := by
      rw [c1, c2, List.length_take, List.length_drop]
      rw [sizeLine_eq]
      omega
    walk_at "rd"
    intro r2 nr2
    have nqa : q ≠ a := ne_of_none upd_same na
    have nqb : q ≠ b := ne_of_none (by rw [upd_ne nqa]; exact upd_same) nb
    have nqr : q ≠ r2 := ne_of_none (by rw [upd_ne nqb, upd_ne nqa]; exact upd_same) nr2
    have sq : Same H (upd H1 q (.lst (ys ++ [v]))) := fun c u e => by rw [upd_ne (ne_of_none e hq0)]; exact s2 _ _ (s1 _ _ e)
    refine .mk ⟨r2, _, ys ++ [v], _, _, rfl, ((sq.trans (same_new na)).trans (same_new nb)).trans (same_new nr2), upd_same, by rw [upd_ne nqr, upd_ne nqb, upd_ne nqa]; exact upd_same, Ne.symm nqr, ?_, by rw [List.length_append, hy]; rfl⟩
    rw [c1, c2]
    have en : (d + 1).toNat = d.toNat + 1 := by omega
    have hd : d.toNat < rs.length := by omega
    have er : rs.take d.toNat ++ v :: rs.drop (d.toNat + 1) = rs := by
      have ev2 : rs[d.toNat] = v := by
        rw [List.getElem?_eq_getElem hd] at ei
        exact Option.some.inj ei
      rw [← ev2, ← List.drop_eq_getElem_cons hd, List.take_append_drop]
    rw [en]
    refine .trans ?_ hp
    rw [List.append_assoc]
    exact List.Perm.append_left ys ((List.perm_middle (a := v) (l₁ := rs.take d.toNat) (l₂ := rs.drop (d.toNat + 1))).symm.trans (List.Perm.of_eq er))
  · obtain ⟨r, rs, ys, o, o', rfl, s1, hr1, hq1, nrq, hp, hy⟩ := z.out
    have hlen : ys.length + rs.length = xs.length := by rw [← List.length_append]; exact hp.length_eq
    have e0 : rs = [] := List.length_eq_zero_iff.mp (by omega)
    subst e0
    rw [List.append_nil] at hp
    walk_at "rd"
    exact k q ys H' s1 hq0 hq1 hp

end
end K24
namespace K24
open PySem PySem.Spec PyProof.Rows L2 TK
section
variable {P : Program} {w : World} {K : PySem.W.Frag} {mg : Str → Option Value} {base : Heap}
def sp_is_int : Sp := fun vs H Q _ => ∃ (x : V) (d : D), vs = [x] ∧ Is H x d ∧ Q (.bl (match d with | .int _ => true | _ => false)) H
theorem ok_law_is_int (T : Tx K mg) : FnOk P w K mg base CX0 1 (He.fAd K at_law_is_int) (fdOf K at_law_is_int) ["thing"] sp_is_int := by
  refine T.F_law_is_int.ok sc_law_is_int (fun vs H Q E h => ?_) (fun cdv A outer s H vs Q E hr h => ?_)
  · obtain ⟨_, _, rfl, _⟩ := h
    rfl
  obtain ⟨x, d, rfl, hx, k⟩ := h
  refine ⟨_, PSs.nox (pss_one (ps_ret (pe_and (pe_callB call_isi (by rfl) T.z_isinstance (by decide +kernel) (pa_cons (pv 0) (pa_cons (pe_bltn (by rfl) T.z_int (by decide +kernel) (v := .ty "int") rfl) pa_nil))) (pe_one (pe_not (pe_callB call_isi (by rfl) T.z_isinstance (by decide +kernel) (pa_cons (pv 0) (pa_cons (pe_bltn (by rfl) T.z_bool (by decide +kernel) (v := .ty "bool") rfl) pa_nil)))))))), ?_⟩
  dsimp only [cxOf, Cx.nox, Cx.wish, L2.start, List.map, List.length, List.replicate, List.append]
  have hx' := hx
  cases hx <;> (walk_at "rdi"; exact k)
theorem ok_law_same1 (T : Tx K mg) {k : Nat} {R : D → Prop} (hk : 1 ≤ k) (G_law_same : FnOk P w K mg base CX0 k (He.fAd K at_law_same) (fdOf K at_law_same) ["actual", "due"] (sp_same R)) : FnOk P w K mg base CX0 (k + 1) (He.fAd K at_law_same) (fdOf K at_law_same) ["actual", "due"] (sp_same (Deeper R)) := by
  have G_law_is_int := (ok_law_is_int (P := P) (w := w) (base := base) T).mono hk
  refine T.F_law_same.ok sc_law_same (fun vs H Q E h => ?_) (fun cdv A outer s H vs Q E hr h => ?_)
  · obtain ⟨_, _, _, rfl, _⟩ := h
    rfl
  obtain ⟨x, y, d, rfl, hx, hy, hR, q⟩ := h
  refine ⟨_, PSs.nox (pss_cons (ps_if (pt_cmpR op_isN (pv 1) pe_non (nomark _))
     (pss_one (ps_ret (pe_cmpR op_isN (pv 0) pe_non (nomark _))))
     pss_nil)
    (pss_cons (ps_if (pt_cmpR op_isA (pv 1) pe_bl (nomark _))
     (pss_one (ps_ret (pe_cmpR op_isA (pv 0) pe_bl (nomark _))))
     pss_nil)
    (pss_cons (ps_if (pt_cmpR op_isA (pv 1) pe_bl (nomark _))
     (pss_one (ps_ret (pe_cmpR op_isA (pv 0) pe_bl (nomark _))))
     pss_nil)
    (pss_cons (ps_if (pt_val (pe_callB call_isi (by rfl) T.z_isinstance (by decide +kernel) (pa_cons (pv 1) (pa_cons (pe_bltn (by rfl) T.z_int (by decide +kernel) (v := .ty "int") rfl) pa_nil))))
     (pss_one (ps_ret (pe_and (pe_call G_law_is_int (hr.mono (by first | decide | omega)) (by rfl) T.m_law_is_int T.F_law_is_int.kp T.b_law_is_int .nil pass0 (pa_cons (pv 0) pa_nil)) (pe_one (pe_cmpR op_eqA (pv 0) (pv 1) (nomark _))))))
     pss_nil)
    (pss_cons (ps_if (pt_val (pe_callB call_isi (by rfl) T.z_isinstance (by decide +kernel) (pa_cons (pv 1) (pa_cons (pe_bltn (by rfl) T.z_str (by decide +kernel) (v := .ty "str") rfl) pa_nil))))
     (pss_one (ps_ret (pe_and (pe_callB call_isi (by rfl) T.z_isinstance (by decide +kernel) (pa_cons (pv 0) (pa_cons (pe_bltn (by rfl) T.z_str (by decide +kernel) (v := .ty "str") rfl) pa_nil))) (pe_one (pe_cmpR op_eqA (pv 0) (pv 1) (nomark _))))))
     pss_nil)
    (pss_cons (ps_if (pt_val (pe_callB call_isi (by rfl) T.z_isinstance (by decide +kernel) (pa_cons (pv 1) (pa_cons (pe_bltn (by rfl) T.z_dict (by decide +kernel) (v := .ty "dict") rfl) pa_nil))))
     (pss_cons (ps_if (PW.pt (pw_or (pt_not (pt_val (pe_callB call_isi (by rfl) T.z_isinstance (by decide +kernel) (pa_cons (pv 0) (pa_cons (pe_bltn (by rfl) T.z_dict (by decide +kernel) (v := .ty "dict") rfl) pa_nil))))) (pw_or1 (pt_cmpR op_neA (pe_callB call_lenA (by rfl) T.z_len PySem.boot_len (pa_cons (pv 0) pa_nil)) (pe_callB call_lenA (by rfl) T.z_len PySem.boot_len (pa_cons (pv 1) pa_nil)) (nomark _)))))
      (pss_one (ps_ret pe_bl))
      pss_nil)
     (pss_cons ps_never
     (pss_one (ps_ret pe_bl))))
     pss_nil)
    (pss_cons (ps_if (PW.pt (pw_and (pt_val (pe_callB call_isi (by rfl) T.z_isinstance (by decide +kernel) (pa_cons (pv 1) (pa_cons (pe_bltn (by rfl) T.z_list (by decide +kernel) (v := .ty "list") rfl) pa_nil)))) (pw_and1 (pt_not (pt_val (pe_callB call_isi (by rfl) T.z_isinstance (by decide +kernel) (pa_cons (pv 0) (pa_cons (pe_bltn (by rfl) T.z_list (by decide +kernel) (v := .ty "list") rfl) pa_nil))))))))
     (pss_one (ps_ret pe_bl))
     pss_nil)
    (pss_cons (ps_if (PW.pt (pw_and (pt_val (pe_callB call_isi (by rfl) T.z_isinstance (by decide +kernel) (pa_cons (pv 1) (pa_cons (pe_bltn (by rfl) T.z_tuple (by decide +kernel) (v := .ty "tuple") rfl) pa_nil)))) (pw_and1 (pt_not (pt_val (pe_callB call_isi (by rfl) T.z_isinstance (by decide +kernel) (pa_cons (pv 0) (pa_cons (pe_bltn (by rfl) T.z_tuple (by decide +kernel) (v := .ty "tuple") rfl) pa_nil))))))))
     (pss_one (ps_ret pe_bl))
     pss_nil)
    (pss_cons (ps_if (pt_cmpR op_neA (pe_callB call_lenA (by rfl) T.z_len PySem.boot_len (pa_cons (pv 0) pa_nil)) (pe_callB call_lenA (by rfl) T.z_len PySem.boot_len (pa_cons (pv 1) pa_nil)) (nomark _))
     (pss_one (ps_ret pe_bl))
     pss_nil)
    (pss_cons (ps_for PassesOwn.never rfl (pi_range1 rfl T.z_range (pa_cons (pe_callB call_lenA (by rfl) T.z_len PySem.boot_len (pa_cons (pv 1) pa_nil)) pa_nil)) (pg_name (i := 3) sc_law_same.nd rfl (by first | exact .inl rfl | exact .inr rfl))
     (pss_one (ps_if (pt_not (pt_val (pe_call G_law_same (hr.mono (by first | decide | omega)) (by rfl) T.m_law_same T.F_law_same.kp T.b_law_same .nil pass0 (pa_cons (pe_ix ix_A (pv 0) (pv 3) (fun _ _ => rfl)) (pa_cons (pe_ix ix_A (pv 1) (pv 3) (fun _ _ => rfl)) pa_nil)))))
      (pss_one (ps_ret pe_bl))
      pss_nil)))
    (pss_one (ps_ret pe_bl)))))))))))), ?_⟩
  dsimp only [cxOf, Cx.nox, Cx.wish, L2.start, List.map, List.length, List.replicate, List.append]
  have hx' := hx
  have hy' := hy
  cases hy with
  | non =>
    cases hx
    walk_at "rdi"
    exact same_end q
  | int i =>
    cases hx
    walk_at "rdi"
    exact same_end q
  | bl b =>
    cases hx
    cases b <;> (walk_at "rdi"; exact same_end q)
  | str s hz =>
    cases hx
    walk_at "rdi"
    exact same_end q
  | @lst p vs ds e z a =>
    cases hx with
    | @lst p2 vs2 _ e2 z2 a2 =>
      have el := a2.len.trans a.len.symm
      walk_at "rdi"
      rw [el, decide_eq_true rfl]
      refine iteF ?_
      walk_at "ri1"
      walk_at "ri1"
      refine ⟨_, rfl, by omega, by rw [sizeLine_eq] at z; omega, ?_⟩
      refine for_range (fun i σ H' => Here (∃ o, σ = [some (.ref p2), some (.ref p), none, o] ∧ Same H H')) (.mk ⟨none, rfl, Same.refl _⟩) (fun i σ H' hi q' => ?_) (fun σ H' q' => ?_)
      · obtain ⟨o, rfl, s1⟩ := q'.out
        have hl : i < vs.length := by omega
        have hl2 : i < vs2.length := by omega
        have g1 := List.getElem?_eq_getElem hl
        have g2 := List.getElem?_eq_getElem hl2
        obtain ⟨d, hd, ia⟩ := a.get g1
        obtain ⟨d', hd', ib⟩ := a2.get g2
        rw [hd] at hd'
        cases hd'
        have ia := ia.mono s1
        have ib := ib.mono s1
        have hRd : R d := hR d (List.mem_of_getElem? hd)
        have x1 : atI vs ((0 : Int) + (i : Nat)) = some vs[i] := by rw [Int.zero_add]; exact atI_nat g1
        have x2 : atI vs2 ((0 : Int) + (i : Nat)) = some vs2[i] := by rw [Int.zero_add]; exact atI_nat g2
        have e := s1 _ _ e
        have e2 := s1 _ _ e2
        walk_at "rdi"
        refine ⟨_, _, d, rfl, ib, ia, hRd, fun H'' s2 => ?_⟩
        walk_at "rdi"
        exact .mk ⟨_, rfl, s1.trans s2⟩
      · obtain ⟨o, rfl, s1⟩ := q'.out
        walk_at "rdi"
        exact q H' s1
  | @tup p vs ds e z a =>
    cases hx with
    | @tup p2 vs2 _ e2 z2 a2 =>
      have el := a2.len.trans a.len.symm
      have e : SqT K H p vs := .inl e
      have e2 : SqT K H p2 vs2 := .inl e2
      walk_at "rdi"
      rw [el, decide_eq_true rfl]
      refine iteF ?_
      walk_at "ri1"
      walk_at "ri1"
      refine ⟨_, rfl, by omega, by rw [sizeLine_eq] at z; omega, ?_⟩
      refine for_range (fun i σ H' => Here (∃ o, σ = [some (.ref p2), some (.ref p), none, o] ∧ Same H H')) (.mk ⟨none, rfl, Same.refl _⟩) (fun i σ H' hi q' => ?_) (fun σ H' q' => ?_)
      · obtain ⟨o, rfl, s1⟩ := q'.out
        have hl : i < vs.length := by omega
        have hl2 : i < vs2.length := by omega
        have g1 := List.getElem?_eq_getElem hl
        have g2 := List.getElem?_eq_getElem hl2
        obtain ⟨d, hd, ia⟩ := a.get g1
        obtain ⟨d', hd', ib⟩ := a2.get g2
        rw [hd] at hd'
        cases hd'
        have ia := ia.mono s1
        have ib := ib.mono s1
        have hRd : R d := hR d (List.mem_of_getElem? hd)
        have x1 : atI vs ((0 : Int) + (i : Nat)) = some vs[i] := by rw [Int.zero_add]; exact atI_nat g1
        have x2 : atI vs2 ((0 : Int) + (i : Nat)) = some vs2[i] := by rw [Int.zero_add]; exact atI_nat g2
        have e := sqT_same s1 e
        have e2 := sqT_same s1 e2
        walk_at "rdi"
        refine ⟨_, _, d, rfl, ib, ia, hRd, fun H'' s2 => ?_⟩
        walk_at "rdi"
        exact .mk ⟨_, rfl, s1.trans s2⟩
      · obtain ⟨o, rfl, s1⟩ := q'.out
        walk_at "rdi"
        exact q H' s1
/-- alike trees of depth n are told alike -/
theorem ok_law_same (T : Tx K mg) : ∀ n : Nat, FnOk P w K mg base CX0 (n + 2) (He.fAd K at_law_same) (fdOf K at_law_same) ["actual", "due"] (sp_same (Fits n))
  | 0 => ok_never.imp fun vs H Q E h => by
    obtain ⟨_, _, _, _, _, _, z, _⟩ := h
    exact z
  | n + 1 => ok_law_same1 T (by omega) (ok_law_same T n)

end
end K24
namespace K24
open PySem PySem.Spec PyProof.Rows L2 TK
abbrev CO (K : PySem.W.Frag) : Addr := He.ga K "KeyOrder"
def bad (x : Str) : Bool := !isName x
/-- at o an order of these names -/
def Ord (K : PySem.W.Frag) (H : Hp) (o : Addr) (row : List Str) : Prop := ∃ dx t, H o = some (.ins (CO K) dx [("names", .ref t)]) ∧ PTup H t (row.map V.str)
/-- names that an order may have -/
structure Row (row : List Str) : Prop where
  good : ∀ y ∈ row, isName y = true
  nd : row.Nodup
  few : row.length ≤ 20
theorem Ord.keep {K : PySem.W.Frag} {H H' : Hp} {o : Addr} {row : List Str} (h : Ord K H o row) (s : Same H H') : Ord K H' o row := by
  obtain ⟨dx, t, h1, h2⟩ := h
  exact ⟨dx, t, s _ _ h1, h2.keep s⟩
theorem Ord.ext {K : PySem.W.Frag} {H H' : Hp} {o : Addr} {row : List Str} (h : Ord K H o row) (e : LamX.ExtN H H') : Ord K H' o row := by
  obtain ⟨dx, t, h1, h2⟩ := h
  exact ⟨dx, t, e _ _ h1 (fun ps z => by cases z), h2.ext e⟩
theorem isName_len {x : Str} (h : isName x = true) : x.length ≤ 12 := by
  unfold isName at h
  split at h
  · cases h
  split at h
  · cases h
  · rename_i z
    have : ¬ ((12 : Int) < (x.length : Int)) := fun y => z (decide_eq_true y)
    omega
theorem Row.len {row : List Str} (h : Row row) {y : Str} (m : y ∈ row) : y.length ≤ 1000 := Nat.le_trans (isName_len (h.good y m)) (by decide)
theorem Row.noBad {row : List Str} (h : Row row) : row.find? bad = none := List.find?_eq_none.mpr fun y m => by simp [bad, h.good y m]
def sp_init (K : PySem.W.Frag) : Sp := fun vs H Q E => ∃ (x dx l : Addr) (xs : List Str), vs = [.ref x, .ref l] ∧ (H l = some (.lst (xs.map V.str)) ∨ PTup H l (xs.map V.str)) ∧ H x = some (.ins (CO K) dx []) ∧ (∀ z ∈ xs, z.length ≤ 1000) ∧ xs.length ≤ 100 ∧
  (∀ z, xs.find? bad = some z → ∀ d H', Same H H' → H' d = some (.xd [("name", .str z)]) → E (.ref (He.ga K "BadName")) (some d) H') ∧
  (xs.find? bad = none → ¬ xs.Nodup → E (.ref (He.ga K "BadOrder")) none H) ∧
  (xs.find? bad = none → xs.Nodup → ∀ H', (∀ b o, b ≠ x → H b = some o → H' b = some o) → Ord K H' x xs → Q .non H')
section
variable {P : Program} {w : World} {K : PySem.W.Frag} {mg : Str → Option Value} {base : Heap}
theorem ok_init (T : Tx K mg) : FnOk PP w K mg base (L2.CX PP w) 4 (He.fAd K at_KeyOrderU_initU) (fdOf K at_KeyOrderU_initU) ["self", "names"] (sp_init K) := by
  have G_check_name := ok_check_name (w := w) (base := base) T
  refine T.F_KeyOrderU_initU.ok sc_KeyOrderU_initU (fun vs H Q E h => ?_) (fun cdv A outer s H vs Q E hr h => ?_)
  · obtain ⟨_, _, _, _, rfl, _⟩ := h
    rfl
  obtain ⟨x, dx, l, xs, rfl, hl, hx, hz, few, kN, kO, k⟩ := h
  refine ⟨_, (pss_cutT (ps_for (passes_of rfl) rfl (pi_seq (pv 1)) (pg_name (i := 2) sc_KeyOrderU_initU.nd rfl (by first | exact .inl rfl | exact .inr rfl))
     (pss_one (ps_expr (pe_call G_check_name (hr.mono (by first | decide | omega)) (by rfl) T.m_check_name T.F_check_name.kp T.b_check_name .nil (passes_call (takes_of rfl rfl rfl rfl) fun _ _ _ _ h => h) (pa_cons (pv 2) pa_nil)))))
    (pss_cutT (ps_if (pt_cmpR op_ltA (pe_lenSetA (by rfl) (by rfl) T.z_len (by rfl) T.z_set (pv 1)) (pe_callB call_lenA (by rfl) T.z_len PySem.boot_len (pa_cons (pv 1) pa_nil)) (nomark _))
     (pss_one (ps_raise rfl (takes_of rfl rfl rfl rfl) (pmk_none T.o_BadOrder.v T.o_BadOrder.i T.o_BadOrder.t T.I_BadOrder (hr.mono (by first | decide | omega)) T.B_BadOrder pass0 (by rfl) T.m_BadOrder)))
     pss_nil)
    (pss_one (ps_fld (pv 0) (pe_callTy call_tuple_ofF (by rfl) T.z_tuple (by decide +kernel) (pa_cons (pv 1) pa_nil)) (by rfl))))), ?_⟩
  dsimp only [cxOf, Cx.nox, Cx.wish, L2.start, List.map, List.length, List.replicate, List.append]
  have hz' : ∀ z ∈ xs, z.length ≤ sizeLine := fun z m => line_le (hz z m) (by decide)
  have step : ∀ (i : Nat) (v : V), (xs.map V.str)[i]? = some v → ∃ z, v = .str z ∧ xs[i]? = some z := fun i v e => by
    rw [List.getElem?_map] at e
    obtain ⟨z, e1, e2⟩ := Option.map_eq_some_iff.mp e
    exact ⟨z, e2.symm, e1⟩
  have grow : ∀ (i : Nat) (z : Str), xs[i]? = some z → (xs.take i).find? bad = none → isName z = true → (xs.take (i + 1)).find? bad = none := fun i z e q g => by
    rw [List.take_succ, e, List.find?_append, q]
    simp [bad, g]
  have stop : ∀ (i : Nat) (z : Str), xs[i]? = some z → (xs.take i).find? bad = none → isName z = false → xs.find? bad = some z := fun i z e q g => by
    obtain ⟨hi, e⟩ := List.getElem?_eq_some_iff.mp e
    rw [← List.take_append_drop i xs, List.find?_append, q, List.drop_eq_getElem_cons hi, e]
    simp [bad, g]
  refine ⟨fun σ H' => Here (∃ o, σ = [some (.ref x), some (.ref l), o] ∧ H' = H ∧ xs.find? bad = none), ?_, fun σ H' p => ?_⟩
  · have inv0 : Here (∃ o, ([some (.ref x), some (.ref l), none] : L2.St) = [some (.ref x), some (.ref l), o] ∧ H = H ∧ (xs.take 0).find? bad = none) := .mk ⟨none, rfl, rfl, rfl⟩
    have one : ∀ (i : Nat) (v : V) (σ : L2.St) (H' : Hp), (xs.map V.str)[i]? = some v → Here (∃ o, σ = [some (.ref x), some (.ref l), o] ∧ H' = H ∧ (xs.take i).find? bad = none) →
        ∃ z o, v = .str z ∧ σ = [some (.ref x), some (.ref l), o] ∧ H' = H ∧ xs[i]? = some z ∧ z.length ≤ sizeLine ∧ (xs.take i).find? bad = none := fun i v σ H' e p => by
      obtain ⟨z, ez, e1⟩ := step i v e
      obtain ⟨o, rfl, rfl, q⟩ := p.out
      exact ⟨z, o, ez, rfl, rfl, e1, hz' z (List.mem_of_getElem? e1), q⟩
    have fin : ∀ (σ : L2.St) (H' : Hp), Here (∃ o, σ = [some (.ref x), some (.ref l), o] ∧ H' = H ∧ (xs.take (xs.map V.str).length).find? bad = none) → Here (∃ o, σ = [some (.ref x), some (.ref l), o] ∧ H' = H ∧ xs.find? bad = none) := fun σ H' p => by
      obtain ⟨o, e1, e2, q⟩ := p.out
      rw [List.length_map, List.take_length] at q
      exact .mk ⟨o, e1, e2, q⟩
    have raise : ∀ (i : Nat) (z : Str), xs[i]? = some z → (xs.take i).find? bad = none → isName z = false → ∀ d, H d = none → E (.ref (He.ga K "BadName")) (some d) (upd H d (.xd [("name", .str z)])) := fun i z e q g d nd => kN z (stop i z e q g) d _ (same_new nd) upd_same
    rcases hl with hl | hl
    · refine ⟨_, rfl, l, rfl, .inl ⟨⟨_, SqL.of hl⟩, ?_⟩⟩
      refine for_list (xs := xs.map V.str) (fun i σ H' => Here (∃ o, σ = [some (.ref x), some (.ref l), o] ∧ H' = H ∧ (xs.take i).find? bad = none)) inv0 (fun i σ H' _ p => ?_) (fun i v σ H' e p => ?_) fin
      · obtain ⟨o, _, rfl, _⟩ := p.out
        exact SqL.of hl
      · obtain ⟨z, o, rfl, rfl, rfl, e1, hzz, q⟩ := one i v σ H' e p
        walk_at "rd"
        exact ⟨fun g => .mk ⟨_, rfl, rfl, grow i z e1 q g⟩, raise i z e1 q⟩
    · refine ⟨_, rfl, l, rfl, .inr ⟨⟨_, hl.sq⟩, ?_⟩⟩
      refine for_tup (xs := xs.map V.str) (fun i σ H' => Here (∃ o, σ = [some (.ref x), some (.ref l), o] ∧ H' = H ∧ (xs.take i).find? bad = none)) inv0 (fun i σ H' _ p => ?_) (fun i v σ H' e p => ?_) fin
      · obtain ⟨o, _, rfl, _⟩ := p.out
        exact hl.sq
      · obtain ⟨z, o, rfl, rfl, rfl, e1, hzz, q⟩ := one i v σ H' e p
        walk_at "rd"
        exact ⟨fun g => .mk ⟨_, rfl, rfl, grow i z e1 q g⟩, raise i z e1 q⟩
  · obtain ⟨o, rfl, rfl, ok⟩ := p.out
    have hlen : (xs.map V.str).length = xs.length := List.length_map ..
    refine ⟨fun σ H'' => Here (σ = [some (.ref x), some (.ref l), o] ∧ H'' = H' ∧ xs.Nodup), ?_, fun σ H'' p => ?_⟩
    · refine ⟨_, rfl, l, xs, rfl, hl.imp (fun z => SqL.of z) fun z => z.sq, by omega, ?_⟩
      rcases hl with hl | hl
      all_goals
        try have hT := PTup.sq (K := K) hl
        walk_at "rd"
        refine ite2 (fun e => ?_) (fun e => ?_)
        · have e := of_decide_eq_true e
          exact kO ok ((diff_lt xs).mp (by omega))
        · have e := fun z => e (decide_eq_true z)
          exact .mk ⟨rfl, rfl, Classical.byContradiction fun z => e (by have := (diff_lt xs).mpr z; omega)⟩
    · obtain ⟨rfl, rfl, nd⟩ := p.out
      have cl := T.cl_KeyOrder
      have nn := T.n_KeyOrder_names
      rcases hl with hl | hl
      · refine ⟨_, rfl, l, _, rfl, .inl ⟨SqL.of hl, fun t ot ot0 nt => ?_⟩⟩
        walk_at "rd"
        have nx : x ≠ t := ne_of_none hx nt
        refine ⟨x, CO K, dx, [], rfl, by rw [upd_ne nx]; exact hx, cl, nn, by decide, ?_⟩
        exact k ok nd _ (fun b o nb e => by rw [upd_ne nb, upd_ne (ne_of_none e nt)]; exact e) ⟨dx, t, upd_same, ot, ot0, by rw [upd_ne (Ne.symm nx)]; exact upd_same⟩
      · refine ⟨_, rfl, l, _, rfl, .inr ⟨hl.sq, ?_⟩⟩
        walk_at "rd"
        obtain ⟨ot, ot0, hl⟩ := hl
        have nx : x ≠ l := fun z => by
          rw [z, hl] at hx
          cases hx
        refine ⟨x, CO K, dx, [], rfl, hx, cl, nn, by decide, ?_⟩
        exact k ok nd _ (fun b o nb e => by rw [upd_ne nb]; exact e) ⟨dx, l, upd_same, ot, ot0, by rw [upd_ne (Ne.symm nx)]; exact hl⟩
end
end K24
namespace K24
open PySem PySem.Spec PyProof.Rows L2 TK LamX
theorem make_ord {K : PySem.W.Frag} {H H1 : Hp} {l : Addr} {xs : List Str} {R : Addr → Hp → Prop} {E : XK} (s : Same H H1) (hl : H1 l = some (.lst (xs.map V.str)) ∨ PTup H1 l (xs.map V.str)) (hz : ∀ z ∈ xs, z.length ≤ 1000) (few : xs.length ≤ 100)
    (kN : ∀ z, xs.find? bad = some z → ∀ d H', Same H H' → H' d = some (.xd [("name", .str z)]) → E (.ref (He.ga K "BadName")) (some d) H')
    (kO : xs.find? bad = none → ¬ xs.Nodup → ∀ H', Same H H' → E (.ref (He.ga K "BadOrder")) none H')
    (k : xs.find? bad = none → xs.Nodup → ∀ o H', Same H H' → H o = none → Ord K H' o xs → R o H') :
    ∀ x dx, H1 x = none → H1 dx = none → dx ≠ x → sp_init K (.ref x :: ([.ref l] ++ [])) (upd (upd H1 dx (.own x)) x (.ins (CO K) dx [])) (fun v H2 => v = .non ∧ R x H2) E := by
  intro x dx nx nd ne
  have up : ∀ {b o}, H1 b = some o → upd (upd H1 dx (.own x)) x (.ins (CO K) dx []) b = some o := fun {b o} e => by
    rw [upd_ne (ne_of_none e nx), upd_ne (ne_of_none e nd)]
    exact e
  have s2 : Same H (upd (upd H1 dx (.own x)) x (.ins (CO K) dx [])) := fun b o e => up (s b o e)
  refine ⟨x, dx, l, xs, rfl, hl.imp up fun ⟨o, h1, h2⟩ => ⟨o, h1, up h2⟩, upd_same, hz, few, fun z e d H' s1 hd => kN z e d H' (s2.trans s1) hd, fun e nn => kO e nn _ s2, fun e nn H' s1 ho => ⟨rfl, k e nn x H' (fun b o q => s1 b o (ne_of_none (s b o q) nx) (s2 b o q)) ?_ ho⟩⟩
  cases q : H x with
  | none => rfl
  | some o =>
    have := s x o q
    rw [nx] at this
    cases this
def sp_has (K : PySem.W.Frag) : Sp := fun vs H Q _ => ∃ p row z, vs = [.ref p, .str z] ∧ Ord K H p row ∧ z.length ≤ 1000 ∧ Q (.bl (inV (.str z) (row.map V.str))) H
def sp_len (K : PySem.W.Frag) : Sp := fun vs H Q _ => ∃ p row, vs = [.ref p] ∧ Ord K H p row ∧ Q (.int (row.length : Nat)) H
def sp_get (K : PySem.W.Frag) : Sp := fun vs H Q E => ∃ p row z, vs = [.ref p, .str z] ∧ Ord K H p row ∧ z.length ≤ 1000 ∧ (z ∉ row → ∀ d H', Same H H' → H' d = some (.xd [("name", .str z)]) → E (.ref (He.ga K "UnknownKey")) (some d) H') ∧ (z ∈ row → ∀ H', Same H H' → Q (.int (row.idxOf z : Nat)) H')
/-- sorted by rank -/
def sortN (row ws : List Str) : List Str := ws.mergeSort fun a b => decide (((row.idxOf a : Nat) : Int) ≤ ((row.idxOf b : Nat) : Int))
def noIn (row : List Str) (y : Str) : Bool := decide (y ∉ row)
abbrev lamN : Str := "KeyOrder.__call__.<locals>.<lambda>"
abbrev tabs (P : Addr) : List (Addr × Str) := [(P, lamN)]
def sp_call (K : PySem.W.Frag) (P : Addr) : Sp := fun vs H Q E => ∃ (p l : Addr) (row ws : List Str), vs = [.ref p, .ref l] ∧ Ord K H p row ∧ (SqL K H l (ws.map V.str) ∨ SqT K H l (ws.map V.str)) ∧ (∀ z ∈ ws, z.length ≤ 1000) ∧ ws.length ≤ 100 ∧ Tabs (tabs P) H ∧
  (∀ z, ws.find? (noIn row) = some z → ∀ d H', Same H H' → H' d = some (.xd [("name", .str z)]) → E (.ref (He.ga K "UnknownKey")) (some d) H') ∧
  (ws.find? (noIn row) = none → ∀ D H2, ExtN H H2 → Tabs (tabs P) H2 → H2 D = none → Q (.ref D) (upd H2 D (.lst ((sortN row ws).map V.str))))
theorem idx_first {row : List Str} {z : Str} {i : Nat} (h : row[i]? = some z) (n : z ∉ row.take i) : row.idxOf z = i := by
  obtain ⟨hi, e⟩ := List.getElem?_eq_some_iff.mp h
  have : row = row.take i ++ row.drop i := (List.take_append_drop i row).symm
  rw [this, List.idxOf_append, if_neg n, List.drop_eq_getElem_cons hi, e, List.idxOf_cons_self, List.length_take]
  omega
section
variable {P : Program} {w : World} {K : PySem.W.Frag} {mg : Str → Option Value} {base : Heap}
theorem ok_has (T : Tx K mg) : FnOk P w K mg base CX0 1 (He.fAd K at_KeyOrderU_containsU) (fdOf K at_KeyOrderU_containsU) ["self", "name"] (sp_has K) := by
  refine T.F_KeyOrderU_containsU.ok sc_KeyOrderU_containsU (fun vs H Q E h => ?_) (fun cdv A outer s H vs Q E hr h => ?_)
  · obtain ⟨_, _, _, rfl, _⟩ := h
    rfl
  obtain ⟨p, row, z, rfl, ⟨dx, t, hp, ht⟩, hz, k⟩ := h
  refine ⟨_, PSs.nox (pss_one (ps_ret (pe_cmpR op_inA (pv 1) (pe_fld (pv 0) (by rfl)) (by rfl)))), ?_⟩
  have cl := T.cl_KeyOrder
  have nn := T.n_KeyOrder_names
  dsimp only [cxOf, Cx.nox, Cx.wish, L2.start, List.map, List.length, List.replicate, List.append]
  have hz' : z.length ≤ sizeLine := line_le hz (by decide)
  have tT : SqT K H t (row.map V.str) := ht.sq
  walk_at "rd"
  refine ⟨p, CO K, dx, _, .ref t, rfl, hp, cl, nn, rfl, ?_⟩
  walk_at "rd"
  exact ⟨List.all_eq_true.mpr fun v m => by obtain ⟨y, _, rfl⟩ := List.mem_map.mp m; rfl, k⟩
theorem ok_len (T : Tx K mg) : FnOk P w K mg base CX0 1 (He.fAd K at_KeyOrderU_lenU) (fdOf K at_KeyOrderU_lenU) ["self"] (sp_len K) := by
  refine T.F_KeyOrderU_lenU.ok sc_KeyOrderU_lenU (fun vs H Q E h => ?_) (fun cdv A outer s H vs Q E hr h => ?_)
  · obtain ⟨_, _, rfl, _⟩ := h
    rfl
  obtain ⟨p, row, rfl, ⟨dx, t, hp, ht⟩, k⟩ := h
  refine ⟨_, PSs.nox (pss_one (ps_ret (pe_callB call_lenA (by rfl) T.z_len PySem.boot_len (pa_cons (pe_fld (pv 0) (by rfl)) pa_nil)))), ?_⟩
  have cl := T.cl_KeyOrder
  have nn := T.n_KeyOrder_names
  dsimp only [cxOf, Cx.nox, Cx.wish, L2.start, List.map, List.length, List.replicate, List.append]
  have tT : SqT K H t (row.map V.str) := ht.sq
  walk_at "rd"
  refine ⟨p, CO K, dx, _, .ref t, rfl, hp, cl, nn, rfl, ?_⟩
  walk_at "rd"
  rw [List.length_map]
  exact k
theorem ok_get (T : Tx K mg) : FnOk PP w K mg base (L2.CX PP w) 5 (He.fAd K at_KeyOrderU_getitemU) (fdOf K at_KeyOrderU_getitemU) ["self", "name"] (sp_get K) := by
  refine T.F_KeyOrderU_getitemU.ok sc_KeyOrderU_getitemU (fun vs H Q E h => ?_) (fun cdv A outer s H vs Q E hr h => ?_)
  · obtain ⟨_, _, _, rfl, _⟩ := h
    rfl
  obtain ⟨p, row, z, rfl, ⟨dx, t, hp, ht⟩, hz, kU, k⟩ := h
  refine ⟨_, (pss_cons (ps_for (passes_of rfl) rfl (pi_enumT (by rfl) T.z_enumerate (pa_cons (pe_fld (pv 0) (by rfl)) pa_nil)) (pg_tup (by rfl) (pgs_cons (pg_name (i := 2) sc_KeyOrderU_getitemU.nd rfl (by first | exact .inl rfl | exact .inr rfl)) (pgs_cons (pg_name (i := 3) sc_KeyOrderU_getitemU.nd rfl (by first | exact .inl rfl | exact .inr rfl)) pgs_nil)))
     (pss_one (ps_if (pt_cmpR op_eqA (pv 3) (pv 1) (nomark _))
      (pss_one (ps_ret (pv 2)))
      pss_nil)))
    (pss_one (ps_raise rfl (takes_of rfl rfl rfl rfl) (pmk_up T.o_UnknownKey T.I_UnknownKey (hr.mono (by first | decide | omega)) T.B_UnknownKey pass0 (by rfl) T.m_UnknownKey (pa_cons (pv 1) pa_nil))))), ?_⟩
  have cl := T.cl_KeyOrder
  have nn := T.n_KeyOrder_names
  dsimp only [cxOf, Cx.nox, Cx.wish, L2.start, List.map, List.length, List.replicate, List.append]
  have tT : SqT K H t (row.map V.str) := ht.sq
  have hz' : z.length ≤ sizeLine := line_le hz (by decide)
  walk_at "rd"
  refine ⟨p, CO K, dx, _, .ref t, rfl, hp, cl, nn, rfl, ?_⟩
  refine ⟨t, _, rfl, tT, ?_⟩
  refine for_enumT (xs := row.map V.str) (fun i σ H' => Here (∃ o1 o2, σ = [some (.ref p), some (.str z), o1, o2] ∧ Same H H' ∧ z ∉ row.take i)) (.mk ⟨none, none, rfl, Same.refl _, by simp⟩) (fun i σ H' _ y => ?_) (fun i x Tt σ H' e nT y => ?_) (fun σ H' y => ?_)
  · obtain ⟨_, _, _, s1, _⟩ := y.out
    exact sqT_same s1 ht.sq
  · obtain ⟨o1, o2, rfl, s1, le⟩ := y.out
    rw [List.getElem?_map] at e
    obtain ⟨u, e1, rfl⟩ := Option.map_eq_some_iff.mp e
    have s2 := s1.trans (same_new (o := .tup [.int (i : Nat), .str u]) nT)
    have hT : (upd H' Tt (.tup [.int (i : Nat), .str u])) Tt = some (.tup [.int (i : Nat), .str u]) := upd_same
    generalize upd H' Tt (.tup [.int (i : Nat), .str u]) = G at s2 hT ⊢
    refine ⟨Tt, _, rfl, SqT.of hT, rfl, _, _, rfl, _, _, rfl, rfl, ?_⟩
    walk_at "rd"
    refine ite2 (fun g => ?_) (fun g => ?_)
    · have g : u = z := by simpa using g
      subst g
      walk_at "rd"
      have q := k (List.mem_of_getElem? e1) G s2
      rw [idx_first e1 le] at q
      exact q
    · have g : u ≠ z := by simpa using g
      refine .mk ⟨_, _, rfl, s2, ?_⟩
      rw [List.take_succ, e1]
      intro m
      rcases List.mem_append.mp m with m | m
      · exact le m
      · exact g (List.mem_singleton.mp m).symm
  · obtain ⟨_, _, rfl, s1, le⟩ := y.out
    rw [List.length_map, List.take_length] at le
    walk_at "rd"
    intro d nd
    exact kU le d _ (s1.trans (same_new nd)) upd_same
theorem ok_iter (T : Tx K mg) : FnS P w K mg base CX0 1 (He.fAd K at_KeyOrderU_iterU) (fdOf K at_KeyOrderU_iterU) ["self"] (spIter (CO K) K "names") := by
  refine fnS_ok T.F_KeyOrderU_iterU sc_KeyOrderU_iterU (fun n vs H Q E h => ?_) (fun cdv A outer s H vs Q E hr h => ?_)
  · obtain ⟨_, _, _, _, _, rfl, _⟩ := h
    rfl
  obtain ⟨p, dx, l, fs, zs, rfl, hp, lk, hq, k⟩ := h
  refine ⟨_, PSs.nox (pss_one (ps_ret (pe_callB call_iterT (by rfl) T.z_iter (by decide +kernel) (pa_cons (pe_fld (pv 0) (by rfl)) pa_nil)))), ?_⟩
  have cl := T.cl_KeyOrder
  have nn := T.n_KeyOrder_names
  dsimp only [cxOf, Cx.nox, Cx.wish, L2.start, List.map, List.length, List.replicate, List.append]
  walk_at "rd"
  refine ⟨p, CO K, dx, _, .ref l, rfl, hp, cl, nn, lk, ?_⟩
  exact ⟨l, zs, rfl, hq, k⟩
theorem ok_call (T : Tx K mg) {c Pt : Addr} (hc : (fdOf K at_KeyOrderU_callU).code = .ref c) (TB : TabB base mg c Pt) : FnOk PP w K mg base (L2.CX PP w) 5 (He.fAd K at_KeyOrderU_callU) (fdOf K at_KeyOrderU_callU) ["self", "names"] (sp_call K Pt) := by
  refine fun_okC T.F_KeyOrderU_callU sc_KeyOrderU_callU (fun vs H Q E h => ?_) (fun A outer s H vs Q E hr h => ?_)
  · obtain ⟨_, _, _, _, rfl, _⟩ := h
    rfl
  obtain ⟨p, l, row, ws, rfl, ⟨dx, t, hp, ht⟩, hl, hz, few, hT, kU, k⟩ := h
  refine ⟨_, (pss_cutT (ps_for (passes_of rfl) rfl (pi_seq (pv 1)) (pg_name (i := 2) sc_KeyOrderU_callU.nd rfl (by first | exact .inl rfl | exact .inr rfl))
     (pss_one (ps_if (pt_cmpR op_ninA (pv 2) (pe_fld (pv 0) (by rfl)) (by rfl))
      (pss_one (ps_raise rfl (takes_of rfl rfl rfl rfl) (pmk_up T.o_UnknownKey T.I_UnknownKey (hr.mono (by first | decide | omega)) T.B_UnknownKey pass0 (by rfl) T.m_UnknownKey (pa_cons (pv 2) pa_nil))))
      pss_nil)))
    (pss_one (ps_ret (pe_sortL (T := tabs Pt) (k := 1) (i := 0) (by rfl) T.z_sorted (pv 1) (hr.mono (by decide)) TB hc (List.mem_singleton.mpr rfl) (fun q hq _ => by rw [List.mem_singleton.mp hq]; rfl) rfl rfl ⟨rfl, rfl, rfl, by decide +kernel, by decide +kernel, by decide +kernel, fun _ _ _ _ _ _ _ => rfl, by decide, by decide, by decide⟩ rfl (by decide +kernel) rfl)))), ?_⟩
  have cl := T.cl_KeyOrder
  have nn := T.n_KeyOrder_names
  dsimp only [cxOf, Cx.nox, Cx.wish, L2.start, List.map, List.length, List.replicate, List.append]
  have tT : SqT K H t (row.map V.str) := ht.sq
  have hz' : ∀ z ∈ ws, z.length ≤ sizeLine := fun z m => line_le (hz z m) (by decide)
  have fl : (row.map V.str).all flatV = true := List.all_eq_true.mpr fun v m => by obtain ⟨y, _, rfl⟩ := List.mem_map.mp m; rfl
  have grow : ∀ (i : Nat) (z : Str), ws[i]? = some z → (ws.take i).find? (noIn row) = none → z ∈ row → (ws.take (i + 1)).find? (noIn row) = none := fun i z e q g => by
    rw [List.take_succ, e, List.find?_append, q]
    simp [noIn, g]
  have stop : ∀ (i : Nat) (z : Str), ws[i]? = some z → (ws.take i).find? (noIn row) = none → z ∉ row → ws.find? (noIn row) = some z := fun i z e q g => by
    obtain ⟨hi, e⟩ := List.getElem?_eq_some_iff.mp e
    rw [← List.take_append_drop i ws, List.find?_append, q, List.drop_eq_getElem_cons hi, e]
    simp [noIn, g]
  have turn : ∀ (i : Nat) (v : V) (σ : L2.St) (H' : Hp), (ws.map V.str)[i]? = some v → Here (∃ o, σ = [some (.ref p), some (.ref l), o] ∧ H' = H ∧ (ws.take i).find? (noIn row) = none) →
      ∃ z o, v = .str z ∧ σ = [some (.ref p), some (.ref l), o] ∧ H' = H ∧ ws[i]? = some z ∧ z.length ≤ sizeLine ∧ (ws.take i).find? (noIn row) = none := fun i v σ H' e p => by
    rw [List.getElem?_map] at e
    obtain ⟨z, e1, e2⟩ := Option.map_eq_some_iff.mp e
    obtain ⟨o, rfl, rfl, q⟩ := p.out
    exact ⟨z, o, e2.symm, rfl, rfl, e1, hz' z (List.mem_of_getElem? e1), q⟩
  have fin : ∀ (σ : L2.St) (H' : Hp), Here (∃ o, σ = [some (.ref p), some (.ref l), o] ∧ H' = H ∧ (ws.take (ws.map V.str).length).find? (noIn row) = none) → Here (∃ o, σ = [some (.ref p), some (.ref l), o] ∧ H' = H ∧ ws.find? (noIn row) = none) := fun σ H' p => by
    obtain ⟨o, e1, e2, q⟩ := p.out
    rw [List.length_map, List.take_length] at q
    exact .mk ⟨o, e1, e2, q⟩
  refine ⟨fun σ H' => Here (∃ o, σ = [some (.ref p), some (.ref l), o] ∧ H' = H ∧ ws.find? (noIn row) = none), ?_, fun σ H' y => ?_⟩
  · rcases hl with hl | hl
    · refine ⟨_, rfl, l, rfl, .inl ⟨⟨_, hl⟩, ?_⟩⟩
      refine for_list (xs := ws.map V.str) (fun i σ H' => Here (∃ o, σ = [some (.ref p), some (.ref l), o] ∧ H' = H ∧ (ws.take i).find? (noIn row) = none)) (.mk ⟨none, rfl, rfl, rfl⟩) (fun i σ H' _ y => ?_) (fun i v σ H' e y => ?_) fin
      · obtain ⟨o, _, rfl, _⟩ := y.out
        exact hl
      · obtain ⟨z, o, rfl, rfl, rfl, e1, hzz, q⟩ := turn i v σ H' e y
        walk_at "rd"
        refine ⟨p, CO K, dx, _, .ref t, rfl, hp, cl, nn, rfl, ?_⟩
        walk_at "rd"
        refine ite2 (fun g => ?_) (fun g => ?_)
        · rw [inV_strs] at g
          have m : z ∉ row := by simpa using g
          walk_at "rd"
          intro d nd
          exact kU z (stop i z e1 q m) d _ (same_new nd) upd_same
        · rw [inV_strs] at g
          have m : z ∈ row := by simpa using g
          exact .mk ⟨_, rfl, rfl, grow i z e1 q m⟩
    · refine ⟨_, rfl, l, rfl, .inr ⟨⟨_, hl⟩, ?_⟩⟩
      refine for_tup (xs := ws.map V.str) (fun i σ H' => Here (∃ o, σ = [some (.ref p), some (.ref l), o] ∧ H' = H ∧ (ws.take i).find? (noIn row) = none)) (.mk ⟨none, rfl, rfl, rfl⟩) (fun i σ H' _ y => ?_) (fun i v σ H' e y => ?_) fin
      · obtain ⟨o, _, rfl, _⟩ := y.out
        exact hl
      · obtain ⟨z, o, rfl, rfl, rfl, e1, hzz, q⟩ := turn i v σ H' e y
        walk_at "rd"
        refine ⟨p, CO K, dx, _, .ref t, rfl, hp, cl, nn, rfl, ?_⟩
        walk_at "rd"
        refine ite2 (fun g => ?_) (fun g => ?_)
        · rw [inV_strs] at g
          have m : z ∉ row := by simpa using g
          walk_at "rd"
          intro d nd
          exact kU z (stop i z e1 q m) d _ (same_new nd) upd_same
        · rw [inV_strs] at g
          have m : z ∈ row := by simpa using g
          exact .mk ⟨_, rfl, rfl, grow i z e1 q m⟩
  · obtain ⟨o, rfl, rfl, ok⟩ := y.out
    refine ⟨_, rfl, l, p, CO K, dx, t, _, ws, row, rfl, hl, rfl, hp, cl, nn, rfl, ht, fun z m => ?_, hT, fun H2 e2 T2 D nD => k ok D H2 e2 T2 nD⟩
    have := List.find?_eq_none.mp ok z m
    simpa [noIn] using this
end
end K24
namespace K24
open PySem PySem.Spec PyProof.Rows L2 TK
theorem nm_long {z : Str} (h : 12 < z.length) : isName z = false := by
  unfold isName
  split
  · rfl
  · rw [if_pos (decide_eq_true (by omega))]
theorem nm_res {z : Str} (h : z ∈ c_RESERVED) : isName z = false := by
  unfold isName
  split
  · rfl
  split
  · rfl
  · rw [if_pos (by rw [inV_strs]; exact decide_eq_true h)]
theorem nm_char {z : Str} {c : Nat} (m : c ∈ z.cps.toList) (h : c ∉ letters.cps.toList) : isName z = false := by
  unfold isName
  split
  · rfl
  split
  · rfl
  split
  · rfl
  · rw [Bool.eq_false_iff]
    intro q
    exact h (by simpa using List.all_eq_true.mp q c m)
theorem nm_ok {z : Str} (h0 : z.cps.toList ≠ []) (h1 : z.length ≤ 12) (h2 : z ∉ c_RESERVED) (h3 : ∀ c ∈ z.cps.toList, c ∈ letters.cps.toList) : isName z = true := by
  unfold isName
  rw [if_neg (fun e => h0 (by have e := of_decide_eq_true e; cases V.str.inj e; rfl)), if_neg (fun e => by have := of_decide_eq_true e; omega), if_neg (fun e => by rw [inV_strs] at e; exact h2 (of_decide_eq_true e))]
  exact List.all_eq_true.mpr fun c m => decide_eq_true (h3 c m)
theorem nm_ne {z : Str} (h : isName z = true) : 1 ≤ z.length := by
  cases q : z.cps.toList with
  | nil =>
    exfalso
    have : z = "" := str_ext (by rw [q]; rfl)
    rw [this] at h
    revert h
    decide +kernel
  | cons a l => rw [len_cps, q]; simp
abbrev resA : List Str := ["always", "never", "and", "or", "not", "when", "add", "set", "change", "tell", "refuse", "take"]
abbrev resB : List Str := ["look", "free", "lock", "keep", "keys", "fields"]
abbrev badS : List Str := [" ", "A", "Z", "0", "9", "_", "-", "`", "{", ":"]
def sp_bad : Sp := fun vs H Q _ => ∃ (st : Addr) (g : Str), vs = [.ref st, .str g] ∧ StAt H st ∧ isName g = true ∧ ∀ (z : Str) (H' : Hp), Same H H' → isName z = false → z.length ≤ 1000 → Q (.str z) H'
section
variable {P : Program} {w : World} {K : PySem.W.Frag} {mg : Str → Option Value} {base : Heap}
theorem ok_bad (T : Tx K mg) : FnOk P w K mg base CX0 3 (He.fAd K at_law_bad_name) (fdOf K at_law_bad_name) ["state", "good"] sp_bad := by
  have G_law_draw := ok_law_draw (P := P) (w := w) (base := base) T
  have G_law_pick := ok_law_pick (P := P) (w := w) (base := base) T
  refine T.F_law_bad_name.ok sc_law_bad_name (fun vs H Q E h => ?_) (fun cdv A outer s H vs Q E hr h => ?_)
  · obtain ⟨_, _, rfl, _⟩ := h
    rfl
  obtain ⟨st, g, rfl, hst, hg, k⟩ := h
  refine ⟨_, PSs.nox (pss_cons (ps_set (i := 2) sc_law_bad_name.nd rfl (by first | exact .inl rfl | exact .inr rfl) (pe_call G_law_draw (hr.mono (by first | decide | omega)) (by rfl) T.m_law_draw T.F_law_draw.kp T.b_law_draw .nil pass0 (pa_cons (pv 0) (pa_cons pe_int pa_nil))))
    (pss_cons (ps_set (i := 3) sc_law_bad_name.nd rfl (by first | exact .inl rfl | exact .inr rfl) (pe_lst (pa_cons pe_str (pa_cons pe_str (pa_cons pe_str (pa_cons pe_str (pa_cons pe_str (pa_cons pe_str (pa_cons pe_str (pa_cons pe_str (pa_cons pe_str (pa_cons pe_str (pa_cons pe_str (pa_cons pe_str pa_nil))))))))))))))
    (pss_cons (ps_set (i := 3) sc_law_bad_name.nd rfl (by first | exact .inl rfl | exact .inr rfl) (pe_op op_addA (pv 3) (pe_lst (pa_cons pe_str (pa_cons pe_str (pa_cons pe_str (pa_cons pe_str (pa_cons pe_str (pa_cons pe_str pa_nil)))))))))
    (pss_cons (ps_if (pt_cmpR op_eqA (pv 2) pe_int (nomark _))
     (pss_one (ps_ret (pe_call G_law_pick (hr.mono (by first | decide | omega)) (by rfl) T.m_law_pick T.F_law_pick.kp T.b_law_pick .nil pass0 (pa_cons (pv 0) (pa_cons (pv 3) pa_nil)))))
     pss_nil)
    (pss_cons (ps_if (pt_cmpR op_eqA (pv 2) pe_int (nomark _))
     (pss_one (ps_ret (pe_slice sl_A (pe_op op_mul_str (pv 1) pe_int) po_none (po_some pe_int))))
     pss_nil)
    (pss_cons (ps_if (pt_cmpR op_eqA (pv 2) pe_int (nomark _))
     (pss_one (ps_ret pe_str))
     pss_nil)
    (pss_cons (ps_set (i := 4) sc_law_bad_name.nd rfl (by first | exact .inl rfl | exact .inr rfl) (pe_call G_law_draw (hr.mono (by first | decide | omega)) (by rfl) T.m_law_draw T.F_law_draw.kp T.b_law_draw .nil pass0 (pa_cons (pv 0) (pa_cons (pe_op op_addA (pe_callB call_lenA (by rfl) T.z_len PySem.boot_len (pa_cons (pv 1) pa_nil)) pe_int) pa_nil))))
    (pss_one (ps_ret (pe_op op_addA (pe_op op_addA (pe_slice sl_A (pv 1) po_none (po_some (pv 4))) (pe_call G_law_pick (hr.mono (by first | decide | omega)) (by rfl) T.m_law_pick T.F_law_pick.kp T.b_law_pick .nil pass0 (pa_cons (pv 0) (pa_cons (pe_lst (pa_cons pe_str (pa_cons pe_str (pa_cons pe_str (pa_cons pe_str (pa_cons pe_str (pa_cons pe_str (pa_cons pe_str (pa_cons pe_str (pa_cons pe_str (pa_cons pe_str pa_nil))))))))))) pa_nil)))) (pe_slice sl_A (pv 1) (po_some (pv 4)) po_none))))))))))), ?_⟩
  dsimp only [cxOf, Cx.nox, Cx.wish, L2.start, List.map, List.length, List.replicate, List.append]
  have g0 := nm_ne hg
  have g1 := isName_len hg
  walk_at "rd"
  intro kind H1 s1 d0 d1
  have hst := hst.mono s1
  walk_at "rd"
  intro p np
  walk_at "rd"
  intro q nq
  have npq : p ≠ q := ne_of_none upd_same nq
  refine .inr (.inr (.inl ⟨p, q, _, _, rfl, rfl, by walk_at "hp", upd_same, Nat.le_of_ble_eq_true rfl, fun r nr => ?_⟩))
  have sG := ((same_new (o := .lst (resA.map V.str)) np).trans ((same_new (o := .lst (resB.map V.str)) nq).trans (same_new (o := .lst (resA.map V.str ++ resB.map V.str)) nr)))
  have hG : (upd (upd (upd H1 p (.lst (resA.map V.str))) q (.lst (resB.map V.str))) r (.lst (resA.map V.str ++ resB.map V.str))) r = some (.lst (c_RESERVED.map V.str)) := upd_same
  have s2 := s1.trans sG
  have hst := hst.mono sG
  have hg' : g.length ≤ sizeLine := line_le (Nat.le_trans g1 (by decide : 12 ≤ 1000)) (by decide)
  walk_at "rd"
  refine ite2 (fun e => ?_) (fun e => ?_)
  · walk_at "rd"
    intro v H3 s3 mv
    have mv : v ∈ c_RESERVED.map V.str := mv
    obtain ⟨z, hz, rfl⟩ := List.mem_map.mp mv
    walk_at "rd"
    have key : ∀ z ∈ c_RESERVED, z.length ≤ 1000 := by decide +kernel
    exact k z H3 (s2.trans s3) (nm_res hz) (key z hz)
  · walk_at "rd"
    refine ite2 (fun e => ?_) (fun e => ?_)
    · walk_at "rd"
      intro m em
      have hm : m.length = 13 * g.length := by rw [len_cps, em, List.length_flatten, List.map_replicate, List.sum_replicate_nat, ← len_cps]
      have hm' : m.length ≤ sizeLine := by rw [sizeLine_eq]; omega
      walk_at "rd"
      have c13 : (cutS m none (some 13)).length = 13 := by
        rw [cutS_lento (by decide)]
        show min 13 _ = 13
        omega
      exact k _ _ s2 (nm_long (by omega)) (by omega)
    · walk_at "rd"
      refine ite2 (fun e => ?_) (fun e => ?_)
      · walk_at "rd"
        exact k _ _ s2 (by decide +kernel) (by decide)
      walk_at "rd"
      intro d H2 s3 d0 d1
      have hst := hst.mono s3
      walk_at "rd"
      intro p2 np2
      have hst2 := hst.mono (same_new (o := .lst (badS.map V.str)) np2)
      have s4 := (s2.trans s3).trans (same_new (o := .lst (badS.map V.str)) np2)
      refine ⟨st, .ref p2, rfl, hst2, .inr ⟨p2, _, rfl, upd_same, by decide, Nat.le_of_ble_eq_true rfl, fun v H3 s5 mv => ?_⟩⟩
      have mv : v ∈ badS.map V.str := mv
      obtain ⟨z, hz, rfl⟩ := List.mem_map.mp mv
      have key : ∀ z ∈ badS, z.length = 1 ∧ ∀ c ∈ z.cps.toList, c ∉ letters.cps.toList := by decide +kernel
      have a1 : (cutS g none (some d)).length ≤ 12 := by rw [cutS_lento d0]; omega
      have a2 := (key z hz).1
      have a3 : (cutS g (some d) none).length ≤ 12 := by rw [cutS_lenfrom d0]; omega
      have b1 : (cutS g none (some d)).length + z.length ≤ sizeLine := app_len a1 (Nat.le_of_eq a2) (by decide)
      have b2 : (cutS g none (some d) ++ z).length + (cutS g (some d) none).length ≤ sizeLine := app_len (n := 13) (by rw [len_app]; omega) a3 (by decide)
      walk_at "rd"
      obtain ⟨c, mc⟩ : ∃ c, c ∈ z.cps.toList := by
        cases q : z.cps.toList with
        | nil => rw [len_cps, q] at a2; cases a2
        | cons a l => exact ⟨a, List.mem_cons_self⟩
      refine k _ H3 (s4.trans s5) (nm_char (c := c) ?_ ((key z hz).2 c mc)) (by rw [len_app, len_app]; omega)
      rw [cps_app, cps_app]
      exact List.mem_append_left _ (List.mem_append_right _ mc)
end
end K24
namespace K24
open PySem PySem.Spec PyProof.Rows L2 TK
theorem letters_at : ∀ i : Nat, i < 26 → letters.cps.toList[i]? = some (97 + i) := by decide +kernel
/-- the drawn letter of word k -/
def lett (s : Int) (k : Nat) : Nat := 97 + ((s + 7 * (k : Int)) % 26).toNat
theorem lett_inj {s : Int} {a b : Nat} (ha : a < 8) (hb : b < 8) (h : lett s a = lett s b) : a = b := by
  unfold lett at h
  omega
/-- a word with the letter c at ix -/
structure Okw (ix c : Nat) (z : Str) : Prop where
  at_ : z.cps.toList[ix]? = some c
  len : z.length ≤ 12
  abc : ∀ c ∈ z.cps.toList, c ∈ letters.cps.toList
theorem Okw.fin {ix c : Nat} {z : Str} (h : Okw ix c z) : ∃ y : Str, y = (if z ∈ c_RESERVED then z ++ ("z" : Str) else z) ∧ isName y = true ∧ y.cps.toList[ix]? = some c := by
  refine ⟨_, rfl, ?_⟩
  have ne : z.cps.toList ≠ [] := fun e => by
    have := h.at_
    rw [e] at this
    cases this
  split
  · rename_i m
    have key : ∀ y ∈ c_RESERVED, y.length ≤ 6 ∧ y.cps.toList.getLast? ≠ some 122 := by decide +kernel
    have e2 : (z ++ ("z" : Str)).cps.toList = z.cps.toList ++ [122] := by rw [cps_app]; rfl
    refine ⟨nm_ok (by rw [e2]; simp) ?_ (fun q => ?_) ?_, ?_⟩
    · have := (key z m).1
      rw [len_app]
      show _ + 1 ≤ 12
      omega
    · have := (key _ q).2
      rw [e2] at this
      simp at this
    · rw [e2]
      intro d md
      rcases List.mem_append.mp md with q | q
      · exact h.abc d q
      · cases List.mem_singleton.mp q
        decide +kernel
    · rw [e2, List.getElem?_append_left (List.getElem?_eq_some_iff.mp h.at_).1]
      exact h.at_
  · rename_i m
    exact ⟨nm_ok ne h.len m h.abc, h.at_⟩
theorem cps_one (c : Nat) : (⟨#[c]⟩ : Str).cps.toList = [c] := rfl
theorem okw_one {c : Nat} (m : c ∈ letters.cps.toList) : Okw 0 c ⟨#[c]⟩ := ⟨rfl, (by decide : 1 ≤ 12), fun d h => by rw [cps_one, List.mem_singleton] at h; exact h ▸ m⟩
theorem okw_mid {b : Str} {n c : Nat} (hb : b.length = 6) (hn : n ≤ 6) (hl : ∀ d ∈ b.cps.toList, d ∈ letters.cps.toList) (m : c ∈ letters.cps.toList) : Okw n c (cutS b none (some (n : Int)) ++ (⟨#[c]⟩ : Str) ++ cutS b (some (n : Int)) none) := by
  have h0 : (0 : Int) ≤ (n : Int) := by omega
  have hb' := hb
  rw [len_cps] at hb'
  have e1 := cutS_to (z := b) h0
  have e2 := cutS_from (z := b) h0
  rw [Int.toNat_natCast] at e1 e2
  have l1 : (b.cps.toList.take n).length = n := by rw [List.length_take]; omega
  refine ⟨?_, ?_, fun d h => ?_⟩
  · rw [cps_app, cps_app, e1, cps_one, List.append_assoc, List.getElem?_append_right (by omega), l1, Nat.sub_self]
    rfl
  · rw [len_app, len_app, cutS_lento h0, cutS_lenfrom h0, hb]
    show _ + 1 + _ ≤ 12
    omega
  · rw [cps_app, cps_app, e1, e2, cps_one] at h
    rcases List.mem_append.mp h with h | h
    · rcases List.mem_append.mp h with h | h
      · exact hl d (List.mem_of_mem_take h)
      · rw [List.mem_singleton.mp h]
        exact m
    · exact hl d (List.mem_of_mem_drop h)
theorem okw_pre {b : Str} {n : Int} {c : Nat} (hb : b.length = 6) (hn : 0 ≤ n) (hl : ∀ d ∈ b.cps.toList, d ∈ letters.cps.toList) (m : c ∈ letters.cps.toList) : Okw 0 c ((⟨#[c]⟩ : Str) ++ cutS b none (some n)) := by
  have e1 := cutS_to (z := b) hn
  refine ⟨?_, ?_, fun d h => ?_⟩
  · rw [cps_app, cps_one]
    rfl
  · rw [len_app, cutS_lento hn, hb]
    show 1 + _ ≤ 12
    omega
  · rw [cps_app, e1, cps_one] at h
    rcases List.mem_append.mp h with h | h
    · rw [List.mem_singleton.mp h]
      exact m
    · exact hl d (List.mem_of_mem_take h)
theorem okw_big {b : Str} {c : Nat} (hb : b.length = 6) (hl : ∀ d ∈ b.cps.toList, d ∈ letters.cps.toList) (m : c ∈ letters.cps.toList) : Okw 5 c (cutS b none (some (5 : Int)) ++ (⟨#[c]⟩ : Str) ++ b) := by
  have h0 : (0 : Int) ≤ 5 := by decide
  have hb' := hb
  rw [len_cps] at hb'
  have e1 : (cutS b none (some (5 : Int))).cps.toList = b.cps.toList.take 5 := cutS_to (z := b) h0
  have l1 : (b.cps.toList.take 5).length = 5 := by rw [List.length_take]; omega
  refine ⟨?_, ?_, fun d h => ?_⟩
  · rw [cps_app, cps_app, e1, cps_one, List.append_assoc, List.getElem?_append_right (by omega), l1]
    rfl
  · rw [len_app, len_app, cutS_lento h0, hb]
    show _ + 1 + _ ≤ 12
    omega
  · rw [cps_app, cps_app, e1, cps_one] at h
    rcases List.mem_append.mp h with h | h
    · rcases List.mem_append.mp h with h | h
      · exact hl d (List.mem_of_mem_take h)
      · rw [List.mem_singleton.mp h]
        exact m
    · exact hl d h
def ixOf (style : Int) (spot : Nat) : Nat := if style = 1 then spot else if style = 3 then 5 else 0
def sp_names : Sp := fun vs H Q _ => ∃ (st : Addr), vs = [.ref st, .int 8] ∧ StAt H st ∧ ∀ (q : Addr) (H' : Hp) (ns : List Str), Same H H' → H q = none → H' q = some (.lst (ns.map V.str)) → ns.length = 8 → ns.Nodup → (∀ y ∈ ns, isName y = true) → Q (.ref q) H'
section
variable {P : Program} {w : World} {K : PySem.W.Frag} {mg : Str → Option Value} {base : Heap}
theorem ok_names (T : Tx K mg) : FnOk P w K mg base CX0 2 (He.fAd K at_law_names) (fdOf K at_law_names) ["state", "many"] sp_names := by
  have G_law_draw := ok_law_draw (P := P) (w := w) (base := base) T
  refine T.F_law_names.ok sc_law_names (fun vs H Q E h => ?_) (fun cdv A outer s H vs Q E hr h => ?_)
  · obtain ⟨_, rfl, _⟩ := h
    rfl
  obtain ⟨st, rfl, hst, k⟩ := h
  refine ⟨_, PSs.nox (pss_cons (ps_set (i := 2) sc_law_names.nd rfl (by first | exact .inl rfl | exact .inr rfl) pe_str)
    (pss_cons (ps_set (i := 3) sc_law_names.nd rfl (by first | exact .inl rfl | exact .inr rfl) (pe_call G_law_draw (hr.mono (by first | decide | omega)) (by rfl) T.m_law_draw T.F_law_draw.kp T.b_law_draw .nil pass0 (pa_cons (pv 0) (pa_cons pe_int pa_nil))))
    (pss_cons (ps_set (i := 4) sc_law_names.nd rfl (by first | exact .inl rfl | exact .inr rfl) (pe_call G_law_draw (hr.mono (by first | decide | omega)) (by rfl) T.m_law_draw T.F_law_draw.kp T.b_law_draw .nil pass0 (pa_cons (pv 0) (pa_cons pe_int pa_nil))))
    (pss_cons (ps_set (i := 5) sc_law_names.nd rfl (by first | exact .inl rfl | exact .inr rfl) (pe_call G_law_draw (hr.mono (by first | decide | omega)) (by rfl) T.m_law_draw T.F_law_draw.kp T.b_law_draw .nil pass0 (pa_cons (pv 0) (pa_cons pe_int pa_nil))))
    (pss_cons (ps_set (i := 6) sc_law_names.nd rfl (by first | exact .inl rfl | exact .inr rfl) (pe_call G_law_draw (hr.mono (by first | decide | omega)) (by rfl) T.m_law_draw T.F_law_draw.kp T.b_law_draw .nil pass0 (pa_cons (pv 0) (pa_cons pe_int pa_nil))))
    (pss_cons (ps_set (i := 7) sc_law_names.nd rfl (by first | exact .inl rfl | exact .inr rfl) pe_str)
    (pss_cons (ps_for PassesOwn.never rfl (pi_range1 rfl T.z_range (pa_cons pe_int pa_nil)) (pg_name (i := 8) sc_law_names.nd rfl (by first | exact .inl rfl | exact .inr rfl))
     (pss_cons (ps_set (i := 7) sc_law_names.nd rfl (by first | exact .inl rfl | exact .inr rfl) (pe_op op_addA (pv 7) (pe_ix ix_A (pv 2) (pe_op op_mod (pe_callTy call_int1 (by rfl) T.z_int (by decide +kernel) (pa_cons (pv 5) pa_nil)) pe_int) (fun _ _ => rfl))))
     (pss_one (ps_set (i := 5) sc_law_names.nd rfl (by first | exact .inl rfl | exact .inr rfl) (pe_op op_fdivW (pe_callTy call_int1 (by rfl) T.z_int (by decide +kernel) (pa_cons (pv 5) pa_nil)) pe_int)))))
    (pss_cons (ps_set (i := 9) sc_law_names.nd rfl (by first | exact .inl rfl | exact .inr rfl) (pe_lst (pa_cons pe_str (pa_cons pe_str (pa_cons pe_str (pa_cons pe_str (pa_cons pe_str (pa_cons pe_str (pa_cons pe_str (pa_cons pe_str (pa_cons pe_str (pa_cons pe_str (pa_cons pe_str (pa_cons pe_str pa_nil))))))))))))))
    (pss_cons (ps_set (i := 9) sc_law_names.nd rfl (by first | exact .inl rfl | exact .inr rfl) (pe_op op_addA (pv 9) (pe_lst (pa_cons pe_str (pa_cons pe_str (pa_cons pe_str (pa_cons pe_str (pa_cons pe_str (pa_cons pe_str pa_nil)))))))))
    (pss_cons (ps_set (i := 10) sc_law_names.nd rfl (by first | exact .inl rfl | exact .inr rfl) (pe_lst pa_nil))
    (pss_cons (ps_for PassesOwn.never rfl (pi_range1 rfl T.z_range (pa_cons (pv 1) pa_nil)) (pg_name (i := 8) sc_law_names.nd rfl (by first | exact .inl rfl | exact .inr rfl))
     (pss_cons (ps_set (i := 11) sc_law_names.nd rfl (by first | exact .inl rfl | exact .inr rfl) (pe_ix ix_A (pv 2) (pe_op op_mod (pe_callTy call_int1 (by rfl) T.z_int (by decide +kernel) (pa_cons (pe_op op_addA (pv 4) (pe_op op_mulA pe_int (pv 8))) pa_nil)) pe_int) (fun _ _ => rfl)))
     (pss_cutT (ps_if (pt_cmpR op_eqA (pv 3) pe_int (nomark _))
      (pss_one (ps_set (i := 11) sc_law_names.nd rfl (by first | exact .inl rfl | exact .inr rfl) (pe_op op_addA (pe_op op_addA (pe_slice sl_A (pv 7) po_none (po_some (pv 6))) (pv 11)) (pe_slice sl_A (pv 7) (po_some (pv 6)) po_none))))
      pss_nil)
     (pss_cutT (ps_if (pt_cmpR op_eqA (pv 3) pe_int (nomark _))
      (pss_one (ps_set (i := 11) sc_law_names.nd rfl (by first | exact .inl rfl | exact .inr rfl) (pe_op op_addA (pv 11) (pe_slice sl_A (pv 7) po_none (po_some (pe_op op_mod (pe_callTy call_int1 (by rfl) T.z_int (by decide +kernel) (pa_cons (pe_op op_addA (pe_op op_mulA pe_int (pv 8)) (pv 6)) pa_nil)) pe_int))))))
      pss_nil)
     (pss_cutT (ps_if (pt_cmpR op_eqA (pv 3) pe_int (nomark _))
      (pss_one (ps_set (i := 11) sc_law_names.nd rfl (by first | exact .inl rfl | exact .inr rfl) (pe_op op_addA (pe_op op_addA (pe_slice sl_A (pv 7) po_none (po_some pe_int)) (pv 11)) (pv 7))))
      pss_nil)
     (pss_cutT (ps_if (pt_cmpR op_inA (pv 11) (pv 9) (by rfl))
      (pss_one (ps_set (i := 11) sc_law_names.nd rfl (by first | exact .inl rfl | exact .inr rfl) (pe_op op_addA (pv 11) pe_str)))
      pss_nil)
     (pss_one (ps_expr (pe_bm PySem.F.plainAttrs_list PySem.F.slot_list_append PySem.F.type_list_append mt_append (pv 10) (pa_cons (pv 11) pa_nil))))))))))
    (pss_one (ps_ret (pv 10)))))))))))))), ?_⟩
  dsimp only [cxOf, Cx.nox, Cx.wish, L2.start, List.map, List.length, List.replicate, List.append]
  walk_at "rd"
  intro style H1 s1 y0 y1
  have hst := hst.mono s1
  walk_at "rd"
  intro shift H2 s2 h0 h1
  have hst := hst.mono s2
  walk_at "rd"
  intro code H3 s3 c0 c1
  have hst := hst.mono s3
  walk_at "rd"
  intro spot H4 s4 p0 p1
  obtain ⟨spot, rfl⟩ : ∃ n : Nat, spot = n := ⟨spot.toNat, by omega⟩
  have sA := ((s1.trans s2).trans s3).trans s4
  walk_at "rd"
  refine for_range (fun i σ H' => Here (∃ (x : Str) (c : Int) (o : Option V), σ = [some (.ref st), some (.int 8), some (.str letters), some (.int style), some (.int shift), some (.int c), some (.int spot), some (.str x), o, none, none, none] ∧ H' = H4 ∧ x.length = i ∧ ∀ c ∈ x.cps.toList, c ∈ letters.cps.toList))
    (.mk ⟨"", code, none, rfl, rfl, rfl, fun c hc => by cases hc⟩) (fun i σ H' hi y => ?_) (fun σ H' y => ?_)
  · obtain ⟨x, c, o, rfl, rfl, hx, hc⟩ := y.out
    obtain ⟨ch, ech, mch⟩ := at_str (z := letters) (i := c % 26) (emod_ge' (by decide)) (emod_lt' (by decide))
    have hi' : i < 6 := by omega
    have hz : x.length + (⟨#[ch]⟩ : Str).length ≤ sizeLine := app_len (m := 1) (Nat.le_refl _) (Nat.le_refl _) (by omega)
    walk_at "rd"
    exact .mk ⟨_, _, _, rfl, rfl, by rw [len_app, hx]; rfl, sgn_app hc mch⟩
  obtain ⟨base, c, o, rfl, e, hx, hc⟩ := y.out
  cases e
  have hx : base.length = 6 := hx
  walk_at "rd"
  intro p np
  walk_at "rd"
  intro q nq
  have npq : p ≠ q := ne_of_none upd_same nq
  refine .inr (.inr (.inl ⟨p, q, _, _, rfl, rfl, by walk_at "hp", upd_same, Nat.le_of_ble_eq_true rfl, fun r nr => ?_⟩))
  have sB : Same H4 (upd (upd (upd H4 p (.lst (resA.map V.str))) q (.lst (resB.map V.str))) r (.lst (resA.map V.str ++ resB.map V.str))) := ((same_new (o := .lst (resA.map V.str)) np).trans ((same_new (o := .lst (resB.map V.str)) nq).trans (same_new (o := .lst (resA.map V.str ++ resB.map V.str)) nr)))
  walk_at "rd"
  intro t nt
  have tH : H4 t = none := sB.free nt
  have nrt : r ≠ t := ne_of_none upd_same nt
  walk_at "rd"
  refine for_range (fun i σ H' => Here (∃ (ws : List Str) (o1 o2 : Option V), σ = [some (.ref st), some (.int 8), some (.str letters), some (.int style), some (.int shift), some (.int c), some (.int (spot : Nat)), some (.str base), o1, some (.ref r), some (.ref t), o2] ∧ Same H4 H' ∧
    H' r = some (.lst (c_RESERVED.map V.str)) ∧ H' t = some (.lst (ws.map V.str)) ∧ ws.length = i ∧ ∀ j z, ws[j]? = some z → isName z = true ∧ z.cps.toList[ixOf style spot]? = some (lett shift j)))
    (.mk ⟨[], _, _, rfl, sB.trans (same_new nt), by rw [upd_ne nrt]; exact upd_same, upd_same, rfl, fun j z e => by cases e⟩) (fun i σ H' hi y => ?_) (fun σ H' y => ?_)
  · obtain ⟨ws, o1, o2, rfl, s5, hr', ht', hw, hall⟩ := y.out
    have hi' : i < 8 := by omega
    have e0 : (shift + 7 * ((0 : Int) + (i : Nat))) % 26 = (((shift + 7 * ((0 : Int) + (i : Nat))) % 26).toNat : Nat) := by omega
    have ech : atI letters.cps.toList ((shift + 7 * ((0 : Int) + (i : Nat))) % 26) = some (lett shift i) := by
      rw [e0, atI_nat (letters_at _ (by omega))]
      unfold lett
      rw [Int.zero_add]
    have mch : lett shift i ∈ letters.cps.toList := by
      have := letters_at ((shift + 7 * ((0 : Int) + (i : Nat))) % 26).toNat (by omega)
      have := List.mem_of_getElem? this
      unfold lett
      rw [Int.zero_add] at this
      exact this
    walk_at "rd"
    have lc : (⟨#[lett shift i]⟩ : Str).length = 1 := rfl
    have hbz : base.length ≤ sizeLine := by rw [sizeLine_eq]; omega
    have sp6 : spot ≤ 6 := by omega
    have ps0 : (0 : Int) ≤ (spot : Int) := by omega
    refine ⟨fun σ H'' => Here (∃ z : Str, σ = [some (.ref st), some (.int 8), some (.str letters), some (.int style), some (.int shift), some (.int c), some (.int (spot : Nat)), some (.str base), some (.int (0 + (i : Nat))), some (.ref r), some (.ref t), some (.str z)] ∧ H'' = H' ∧ (style = 1 → Okw spot (lett shift i) z) ∧ (style ≠ 1 → z = ⟨#[lett shift i]⟩)), ?_, fun σ H'' y => ?_⟩
    · walk_at "rd"
      refine ite2 (fun e => ?_) (fun e => ?_)
      · have e : style = 1 := by have e := of_decide_eq_true e; injection e
        have b1 : (cutS base none (some (spot : Int))).length + (⟨#[lett shift i]⟩ : Str).length ≤ sizeLine := app_len (n := 6) (m := 1) (by rw [cutS_lento ps0]; omega) (Nat.le_refl _) (by decide)
        have b2 : (cutS base none (some (spot : Int)) ++ (⟨#[lett shift i]⟩ : Str)).length + (cutS base (some (spot : Int)) none).length ≤ sizeLine := app_len (n := 7) (m := 6) (by rw [len_app, cutS_lento ps0, lc]; omega) (by rw [cutS_lenfrom ps0]; omega) (by decide)
        walk_at "rd"
        exact .mk ⟨_, rfl, rfl, fun _ => okw_mid hx sp6 hc mch, fun n => (n e).elim⟩
      · have e : style ≠ 1 := fun q => e (decide_eq_true (by rw [q]))
        exact .mk ⟨_, rfl, rfl, fun n => (e n).elim, fun _ => rfl⟩
    obtain ⟨z, rfl, e, z1, z2⟩ := y.out
    cases e
    refine ⟨fun σ H'' => Here (∃ z : Str, σ = [some (.ref st), some (.int 8), some (.str letters), some (.int style), some (.int shift), some (.int c), some (.int (spot : Nat)), some (.str base), some (.int (0 + (i : Nat))), some (.ref r), some (.ref t), some (.str z)] ∧ H'' = H' ∧ (style = 1 → Okw spot (lett shift i) z) ∧ (style = 2 → Okw 0 (lett shift i) z) ∧ (style ≠ 1 → style ≠ 2 → z = ⟨#[lett shift i]⟩)), ?_, fun σ H'' y => ?_⟩
    · walk_at "rd"
      refine ite2 (fun e => ?_) (fun e => ?_)
      · have e : style = 2 := by have e := of_decide_eq_true e; injection e
        cases z2 (by omega)
        have n0 : (0 : Int) ≤ (3 * ((0 : Int) + (i : Nat)) + (spot : Nat)) % 7 := by omega
        have b1 : (⟨#[lett shift i]⟩ : Str).length + (cutS base none (some ((3 * ((0 : Int) + (i : Nat)) + (spot : Nat)) % 7))).length ≤ sizeLine := app_len (n := 1) (m := 6) (Nat.le_refl _) (by rw [cutS_lento n0]; omega) (by decide)
        walk_at "rd"
        exact .mk ⟨_, rfl, rfl, fun n => absurd n (by omega), fun _ => okw_pre hx n0 hc mch, fun _ n => (n e).elim⟩
      · have e : style ≠ 2 := fun q => e (decide_eq_true (by rw [q]))
        exact .mk ⟨_, rfl, rfl, z1, fun n => (e n).elim, fun n _ => z2 n⟩
    obtain ⟨z, rfl, e, z1, z2, z3⟩ := y.out
    cases e
    refine ⟨fun σ H'' => Here (∃ z : Str, σ = [some (.ref st), some (.int 8), some (.str letters), some (.int style), some (.int shift), some (.int c), some (.int (spot : Nat)), some (.str base), some (.int (0 + (i : Nat))), some (.ref r), some (.ref t), some (.str z)] ∧ H'' = H' ∧ Okw (ixOf style spot) (lett shift i) z), ?_, fun σ H'' y => ?_⟩
    · walk_at "rd"
      refine ite2 (fun e => ?_) (fun e => ?_)
      · have e : style = 3 := by have e := of_decide_eq_true e; injection e
        cases z3 (by omega) (by omega)
        have b1 : (cutS base none (some (5 : Int))).length + (⟨#[lett shift i]⟩ : Str).length ≤ sizeLine := app_len (n := 6) (m := 1) (by rw [cutS_lento (by decide)]; omega) (Nat.le_refl _) (by decide)
        have b2 : (cutS base none (some (5 : Int)) ++ (⟨#[lett shift i]⟩ : Str)).length + base.length ≤ sizeLine := app_len (n := 7) (m := 6) (by rw [len_app, cutS_lento (by decide), lc]; omega) (by omega) (by decide)
        walk_at "rd"
        refine .mk ⟨_, rfl, rfl, ?_⟩
        unfold ixOf
        rw [if_neg (by omega), if_pos e]
        exact okw_big hx hc mch
      · have e : style ≠ 3 := fun q => e (decide_eq_true (by rw [q]))
        refine .mk ⟨_, rfl, rfl, ?_⟩
        unfold ixOf
        by_cases q : style = 1
        · rw [if_pos q]
          exact z1 q
        · rw [if_neg q, if_neg e]
          by_cases q2 : style = 2
          · exact z2 q2
          · rw [z3 q q2]
            exact okw_one mch
    obtain ⟨z, rfl, e, z1⟩ := y.out
    cases e
    obtain ⟨wd, ey, yn, ya⟩ := z1.fin
    refine ⟨fun σ H'' => Here (σ = [some (.ref st), some (.int 8), some (.str letters), some (.int style), some (.int shift), some (.int c), some (.int (spot : Nat)), some (.str base), some (.int (0 + (i : Nat))), some (.ref r), some (.ref t), some (.str wd)] ∧ H'' = H'), ?_, fun σ H'' y => ?_⟩
    · have zl : z.length + ("z" : Str).length ≤ sizeLine := app_len (n := 12) (m := 1) z1.len (by decide) (by decide)
      walk_at "rd"
      refine ite2 (fun e => ?_) (fun e => ?_)
      · rw [inV_strs] at e
        rw [if_pos (of_decide_eq_true e)] at ey
        walk_at "rd"
        rw [ey]
        exact .mk ⟨rfl, rfl⟩
      · rw [inV_strs] at e
        rw [if_neg (fun q => e (decide_eq_true q))] at ey
        rw [ey]
        exact .mk ⟨rfl, rfl⟩
    obtain ⟨rfl, e⟩ := y.out
    cases e
    walk_at "rd"
    refine ⟨.inl ⟨rfl, _, SqL.of ht'⟩, ?_⟩
    walk_at "rd"
    refine ⟨t, _, _, rfl, rfl, ht', by rw [List.length_map, sizeLine_eq]; omega, ?_⟩
    walk_at "rd"
    refine .mk ⟨ws ++ [wd], _, _, rfl, fun b o q => by rw [upd_ne (ne_of_none q tH)]; exact s5 _ _ q, by rw [upd_ne nrt]; exact hr', by rw [upd_same, List.map_append]; rfl, by rw [List.length_append, hw]; rfl, fun j z2 e => ?_⟩
    by_cases lt : j < ws.length
    · rw [List.getElem?_append_left lt] at e
      exact hall j z2 e
    · rw [List.getElem?_append_right (by omega)] at e
      have : j = i := by
        have := (List.getElem?_eq_some_iff.mp e).1
        simp at this
        omega
      subst this
      rw [hw, Nat.sub_self] at e
      cases e
      exact ⟨yn, ya⟩
  · obtain ⟨ws, o1, o2, rfl, s5, hr', ht', hw, hall⟩ := y.out
    have hw : ws.length = 8 := hw
    walk_at "rd"
    refine k t H' ws (sA.trans s5) (sA.free tH) ht' hw ?_ fun y m => ?_
    · refine List.pairwise_iff_getElem.mpr fun a b ha hb lt e => ?_
      have e1 := (hall a _ (List.getElem?_eq_getElem ha)).2
      have e2 := (hall b _ (List.getElem?_eq_getElem hb)).2
      rw [e, e2] at e1
      have := lett_inj (by omega) (by omega) (Option.some.inj e1)
      omega
    · obtain ⟨j, hj, e⟩ := List.getElem_of_mem m
      exact (hall j y (by rw [← e]; exact List.getElem?_eq_getElem hj)).1
end
end K24
namespace K24
open PySem PySem.Spec PyProof.Rows L2 TK
open LamX (ExtN Tabs TabB)
def unkT (z : Str) : List V := [.str "unknown", .str z, .bl true, .bl false]
def sp_rank (K : PySem.W.Frag) : Sp := fun vs H Q _ => ∃ p row z, vs = [.ref p, .str z] ∧ Ord K H p row ∧ z.length ≤ 1000 ∧ (∀ y, y = z → y ∉ row → ∀ q H', Same H H' → H q = none → H' q = some (.tup (unkT y)) → Q (.ref q) H') ∧ (z ∈ row → ∀ H', Same H H' → Q (.int (row.idxOf z : Nat)) H')
def sp_sort (K : PySem.W.Frag) (P : Addr) : Sp := fun vs H Q _ => ∃ (p l : Addr) (row ws : List Str), vs = [.ref p, .ref l] ∧ Ord K H p row ∧ (SqL K H l (ws.map V.str) ∨ SqT K H l (ws.map V.str)) ∧ (∀ z ∈ ws, z.length ≤ 1000) ∧ ws.length ≤ 100 ∧ Tabs (tabs P) H ∧
  (∀ z, ws.find? (noIn row) = some z → ∀ q H', Same H H' → H q = none → H' q = some (.tup (unkT z)) → Q (.ref q) H') ∧
  (ws.find? (noIn row) = none → ∀ D H2, ExtN H H2 → Tabs (tabs P) H2 → H2 D = none → Q (.ref D) (upd H2 D (.lst ((sortN row ws).map V.str))))
section
variable {w : World} {K : PySem.W.Frag} {mg : Str → Option Value} {base : Heap}
theorem ok_rank (T : Tx K mg) : FnOk PP w K mg base CX0 8 (He.fAd K at_law_rank) (fdOf K at_law_rank) ["order", "name"] (sp_rank K) := by
  have G_get := ok_get (w := w) (base := base) T
  refine T.F_law_rank.ok sc_law_rank (fun vs H Q E h => ?_) (fun cdv A outer s H vs Q E hr h => ?_)
  · obtain ⟨_, _, _, rfl, _⟩ := h
    rfl
  obtain ⟨p, row, z, rfl, O, hz, kU, k⟩ := h
  obtain ⟨dx, t, hp, ht⟩ := id O
  refine ⟨_, PSs.nox (pss_cons (ps_try_as (i := 3) (Wout := fun _ _ _ _ => False) rfl rfl sc_law_rank.nd rfl rfl ⟨rfl, by decide, .inl T.m_UnknownKey⟩ takes0
    (fun W pn xe tk _ => (pss_one (ps_set (i := 2) sc_law_rank.nd rfl (by first | exact .inl rfl | exact .inr rfl) (pe_ixS T.me_KeyOrder_getitem T.x_getitem G_get (hr.mono (by decide)) T.b_KeyOrderU_getitemU (fun σ => passAt tk σ) (pv 0) (pv 1)))))
    (fun a oe cls d pn hz hf => (pss_cons (ps_set (i := 4) sc_law_rank.nd rfl (by first | exact .inl rfl | exact .inr rfl) (pe_or (pe_callB (call_isE hz hf) (by rfl) T.z_isinstance (by decide +kernel) (pa_cons (pv 3) (pa_cons (pe_globE (v := .ref (He.ga K "UnknownField")) (by rfl) ⟨_, T.m_UnknownField, rfl⟩) pa_nil))) (pe_one (pe_callB (call_isE hz hf) (by rfl) T.z_isinstance (by decide +kernel) (pa_cons (pv 3) (pa_cons (pe_globE (v := .ref (He.ga K "UnknownShape")) (by rfl) ⟨_, T.m_UnknownShape, rfl⟩) pa_nil))))))
      (pss_one (ps_ret (pe_tup (pa_cons pe_str (pa_cons (pe_xf T.o_UnknownKey.f (T.o_UnknownKey.n "name" (by simp)) hz hf (pv 3)) (pa_cons (pe_callB (call_isE hz hf) (by rfl) T.z_isinstance (by decide +kernel) (pa_cons (pv 3) (pa_cons (pe_globE (v := .ref (He.ga K "UnknownName")) (by rfl) ⟨_, T.m_UnknownName, rfl⟩) pa_nil))) (pa_cons (pv 4) pa_nil)))))))))) (pss_one (ps_ret (pv 2)))), ?_⟩
  dsimp only [cxOf, Cx.nox, Cx.wish, L2.start, List.map, List.length, List.replicate, List.append]
  walk_at "rd"
  refine ⟨p, dx, _, rfl, hp, ?_⟩
  refine ⟨p, row, z, rfl, O, hz, ?_⟩
  refine ⟨fun m d H' s1 hd => ?_, fun m H' s1 => ?_⟩
  · refine ⟨true, T.c_UnknownKey_UnknownKey, fun _ a na => ?_, fun z => nomatch z⟩
    walk_at "rd"
    refine ⟨He.ga K "UnknownKey", .ref (He.ga K "UnknownField"), .ref (He.ga K "UnknownField"), false, rfl, T.o_UnknownKey.e, rfl, .own _, T.k_UnknownKey_UnknownField, .inr ⟨d, _, rfl, hd⟩, ?_⟩
    walk_at "rd"
    refine ⟨He.ga K "UnknownKey", .ref (He.ga K "UnknownShape"), .ref (He.ga K "UnknownShape"), false, rfl, T.o_UnknownKey.e, rfl, .own _, T.k_UnknownKey_UnknownShape, .inr ⟨d, _, rfl, hd⟩, ?_⟩
    walk_at "rd"
    refine ⟨d, _, .str z, rfl, hd, rfl, ?_⟩
    walk_at "rd"
    refine ⟨He.ga K "UnknownKey", .ref (He.ga K "UnknownName"), .ref (He.ga K "UnknownName"), true, rfl, T.o_UnknownKey.e, rfl, .own _, T.k_UnknownKey_UnknownName, .inr ⟨d, _, rfl, hd⟩, ?_⟩
    walk_at "rd"
    intro q nq
    exact kU z rfl m q _ (s1.trans (same_new nq)) (s1.free nq) upd_same
  · walk_at "rd"
    exact k m H' s1
theorem ok_sort (T : Tx K mg) {c Pt : Addr} (hc : (fdOf K at_KeyOrderU_callU).code = .ref c) (TB : TabB base mg c Pt) : FnOk PP w K mg base CX0 8 (He.fAd K at_law_sort) (fdOf K at_law_sort) ["order", "row"] (sp_sort K Pt) := by
  have G_call := ok_call (w := w) T hc TB
  refine T.F_law_sort.ok sc_law_sort (fun vs H Q E h => ?_) (fun cdv A outer s H vs Q E hr h => ?_)
  · obtain ⟨_, _, _, _, rfl, _⟩ := h
    rfl
  obtain ⟨p, l, row, ws, rfl, O, hl, hz, few, hT, kU, k⟩ := h
  obtain ⟨dx, t, hp, ht⟩ := id O
  refine ⟨_, PSs.nox (pss_cons (ps_try_as (i := 3) (Wout := fun _ _ _ _ => False) rfl rfl sc_law_sort.nd rfl rfl ⟨rfl, by decide, .inl T.m_UnknownKey⟩ takes0
    (fun W pn xe tk _ => (pss_one (ps_set (i := 2) sc_law_sort.nd rfl (by first | exact .inl rfl | exact .inr rfl) (pe_callS' (pv 0) ⟨of_decide_eq_true T.x_callat, T.x_isfn, T.x_fnin⟩ G_call (hr.mono (by decide)) T.b_KeyOrderU_callU (fun σ => passAt tk σ) (pa_cons (pv 1) pa_nil)))))
    (fun a oe cls d pn hz hf => (pss_cons (ps_set (i := 4) sc_law_sort.nd rfl (by first | exact .inl rfl | exact .inr rfl) (pe_or (pe_callB (call_isE hz hf) (by rfl) T.z_isinstance (by decide +kernel) (pa_cons (pv 3) (pa_cons (pe_globE (v := .ref (He.ga K "UnknownField")) (by rfl) ⟨_, T.m_UnknownField, rfl⟩) pa_nil))) (pe_one (pe_callB (call_isE hz hf) (by rfl) T.z_isinstance (by decide +kernel) (pa_cons (pv 3) (pa_cons (pe_globE (v := .ref (He.ga K "UnknownShape")) (by rfl) ⟨_, T.m_UnknownShape, rfl⟩) pa_nil))))))
      (pss_one (ps_ret (pe_tup (pa_cons pe_str (pa_cons (pe_xf T.o_UnknownKey.f (T.o_UnknownKey.n "name" (by simp)) hz hf (pv 3)) (pa_cons (pe_callB (call_isE hz hf) (by rfl) T.z_isinstance (by decide +kernel) (pa_cons (pv 3) (pa_cons (pe_globE (v := .ref (He.ga K "UnknownName")) (by rfl) ⟨_, T.m_UnknownName, rfl⟩) pa_nil))) (pa_cons (pv 4) pa_nil)))))))))) (pss_one (ps_ret (pv 2)))), ?_⟩
  dsimp only [cxOf, Cx.nox, Cx.wish, L2.start, List.map, List.length, List.replicate, List.append]
  walk_at "rd"
  refine ⟨⟨dx, _, hp⟩, ?_⟩
  refine ⟨p, l, row, ws, rfl, O, hl, hz, few, hT, ?_⟩
  refine ⟨fun z m d H' s1 hd => ?_, fun m D H2 e2 T2 nD => ?_⟩
  · refine ⟨true, T.c_UnknownKey_UnknownKey, fun _ a na => ?_, fun z => nomatch z⟩
    walk_at "rd"
    refine ⟨He.ga K "UnknownKey", .ref (He.ga K "UnknownField"), .ref (He.ga K "UnknownField"), false, rfl, T.o_UnknownKey.e, rfl, .own _, T.k_UnknownKey_UnknownField, .inr ⟨d, _, rfl, hd⟩, ?_⟩
    walk_at "rd"
    refine ⟨He.ga K "UnknownKey", .ref (He.ga K "UnknownShape"), .ref (He.ga K "UnknownShape"), false, rfl, T.o_UnknownKey.e, rfl, .own _, T.k_UnknownKey_UnknownShape, .inr ⟨d, _, rfl, hd⟩, ?_⟩
    walk_at "rd"
    refine ⟨d, _, .str z, rfl, hd, rfl, ?_⟩
    walk_at "rd"
    refine ⟨He.ga K "UnknownKey", .ref (He.ga K "UnknownName"), .ref (He.ga K "UnknownName"), true, rfl, T.o_UnknownKey.e, rfl, .own _, T.k_UnknownKey_UnknownName, .inr ⟨d, _, rfl, hd⟩, ?_⟩
    walk_at "rd"
    intro q nq
    exact kU z m q _ (s1.trans (same_new nq)) (s1.free nq) upd_same
  · walk_at "rd"
    exact k m D H2 e2 T2 nD
end
end K24
namespace K24
open PySem PySem.Spec PyProof.Rows L2 TK
/-- what is due: the wanted names by rank -/
def byRank (row ws : List Str) : List Str := row.flatMap fun n => ws.filter fun o => decide (o = n)
theorem byRank_len : ∀ (row ws : List Str), (byRank row ws).length ≤ row.length * ws.length
  | [], ws => by simp [byRank]
  | n :: row, ws => by
    have e : byRank (n :: row) ws = ws.filter (fun o => decide (o = n)) ++ byRank row ws := by simp [byRank]
    rw [e, List.length_append, List.length_cons, Nat.succ_mul]
    have h1 := byRank_len row ws
    have h2 := (List.filter_sublist (p := fun o => decide (o = n)) (l := ws)).length_le
    omega
theorem byRank_snoc (row ws : List Str) (n : Str) : byRank (row ++ [n]) ws = byRank row ws ++ ws.filter fun o => decide (o = n) := by simp [byRank]
theorem none_iff {row ws : List Str} : ws.find? (noIn row) = none ↔ ∀ z ∈ ws, z ∈ row := by
  rw [List.find?_eq_none]
  constructor
  · intro h z m
    have := h z m
    simpa [noIn] using this
  · intro h z m
    simp [noIn, h z m]
theorem mem_byRank {row ws : List Str} {z : Str} : z ∈ byRank row ws ↔ z ∈ row ∧ z ∈ ws := by
  simp only [byRank, List.mem_flatMap, List.mem_filter, decide_eq_true_eq]
  constructor
  · rintro ⟨n, h1, h2, rfl⟩
    exact ⟨h1, h2⟩
  · intro h
    exact ⟨z, h.1, h.2, rfl⟩
/-- the same items at each name -/
theorem byRank_at {row ws : List Str} (nd : row.Nodup) (z : Str) (hz : z ∈ row) : (byRank row ws).filter (fun o => decide (o = z)) = ws.filter fun o => decide (o = z) := by
  induction row with
  | nil => cases hz
  | cons n row ih =>
    obtain ⟨h1, h2⟩ := List.nodup_cons.mp nd
    have e : byRank (n :: row) ws = ws.filter (fun o => decide (o = n)) ++ byRank row ws := by simp [byRank]
    rw [e, List.filter_append, List.filter_filter]
    by_cases q : z = n
    · subst q
      have e0 : (byRank row ws).filter (fun o => decide (o = z)) = [] := List.filter_eq_nil_iff.mpr fun y m h => by
        have h : y = z := by simpa using h
        exact h1 (h ▸ (mem_byRank.mp m).1)
      rw [e0, List.append_nil]
      congr 1
      funext a
      simp
    · have m : z ∈ row := (List.mem_cons.mp hz).resolve_left q
      have e0 : ws.filter (fun a => decide (a = z) && decide (a = n)) = [] := List.filter_eq_nil_iff.mpr fun y _ h => by
        simp only [Bool.and_eq_true, decide_eq_true_eq] at h
        exact q (h.1.symm.trans h.2)
      rw [e0, List.nil_append]
      exact ih h2 m
theorem byRank_le {row ws : List Str} (nd : row.Nodup) : (byRank row ws).Pairwise fun a b => row.idxOf a ≤ row.idxOf b := by
  have key : ∀ (pre row : List Str), (pre ++ row).Nodup → (byRank row ws).Pairwise fun a b => (pre ++ row).idxOf a ≤ (pre ++ row).idxOf b := by
    intro pre row
    induction row generalizing pre with
    | nil => intro _; simp [byRank]
    | cons n row ih =>
      intro nd
      have e : byRank (n :: row) ws = ws.filter (fun o => decide (o = n)) ++ byRank row ws := by simp [byRank]
      have e2 : pre ++ n :: row = (pre ++ [n]) ++ row := by simp
      rw [e, List.pairwise_append]
      refine ⟨?_, ?_, fun a ha b hb => ?_⟩
      · refine List.Pairwise.imp_of_mem (R := fun _ _ => True) (fun {a b} ha hb _ => ?_) (List.pairwise_of_forall fun _ _ => trivial)
        have ha : a = n := by simpa using (List.mem_filter.mp ha).2
        have hb : b = n := by simpa using (List.mem_filter.mp hb).2
        rw [ha, hb]
        exact Nat.le_refl _
      · rw [e2]
        exact ih (pre ++ [n]) (by rw [← e2]; exact nd)
      · have ha : a = n := by simpa using (List.mem_filter.mp ha).2
        have hb := (mem_byRank.mp hb).1
        subst ha
        rw [e2] at nd
        obtain ⟨nd1, nd2, dj⟩ := List.nodup_append.mp nd
        have nb : b ∉ pre ++ [a] := fun m => dj b m b hb rfl
        have ma : a ∈ pre ++ [a] := List.mem_append_right _ (List.mem_singleton.mpr rfl)
        have i1 : (pre ++ [a] ++ row).idxOf a = (pre ++ [a]).idxOf a := (List.idxOf_append (l₁ := pre ++ [a])).trans (if_pos ma)
        have i2 : (pre ++ [a] ++ row).idxOf b = row.idxOf b + (pre ++ [a]).length := (List.idxOf_append (l₁ := pre ++ [a])).trans (if_neg nb)
        have i3 := List.idxOf_lt_length_iff.mpr ma
        rw [e2, i1, i2]
        omega
  exact key [] row nd
theorem sort_due {row ws : List Str} (nd : row.Nodup) (h : ∀ z ∈ ws, z ∈ row) : sortN row ws = byRank row ws := by
  have lt : ∀ {z : Str}, z ∈ row → row.idxOf z < row.length := fun {z} m => List.idxOf_lt_length_iff.mpr m
  have inj : ∀ {y z : Str}, y ∈ row → row.idxOf y = row.idxOf z → y = z := fun {y z} m e => by
    have hz : z ∈ row := List.idxOf_lt_length_iff.mp (e ▸ lt m)
    have h1 := List.getElem_idxOf (lt m)
    have h2 := List.getElem_idxOf (lt hz)
    rw [← h1, ← h2]
    congr 1
  have same : ∀ (l : List Str), (∀ x ∈ l, x ∈ row) → ∀ c, l.filter (PySem.W.sameRank (fun a b => decide (((row.idxOf a : Nat) : Int) ≤ ((row.idxOf b : Nat) : Int))) c) = if c ∈ row then l.filter (fun o => decide (o = c)) else [] := fun l hl c => by
    by_cases mc : c ∈ row
    · rw [if_pos mc]
      refine List.filter_congr fun x m => ?_
      unfold PySem.W.sameRank
      rw [Bool.eq_iff_iff, Bool.and_eq_true, decide_eq_true_eq, decide_eq_true_eq, decide_eq_true_eq]
      constructor
      · intro h
        exact inj (hl x m) (by omega)
      · intro h
        rw [h]
        omega
    · rw [if_neg mc]
      refine List.filter_eq_nil_iff.mpr fun x m h => ?_
      unfold PySem.W.sameRank at h
      rw [Bool.and_eq_true, decide_eq_true_eq, decide_eq_true_eq] at h
      exact mc (inj (hl x m) (by omega : row.idxOf x = row.idxOf c) ▸ hl x m)
  refine (PySem.W.sort_unique ⟨fun a b c h1 h2 => ?_, fun a b => ?_⟩ ?_ fun c => ?_).symm
  · rw [decide_eq_true_eq] at h1 h2 ⊢
    omega
  · rw [decide_eq_true_eq, decide_eq_true_eq]
    omega
  · exact (byRank_le nd).imp fun q => decide_eq_true (by omega)
  · rw [same _ (fun x m => (mem_byRank.mp m).1), same _ h]
    split
    · exact byRank_at nd c (by assumption)
    · rfl
end K24
namespace K24
open PySem PySem.Spec PyProof.Rows L2 TK
theorem flat_strs (ws : List Str) : (ws.map V.str).all flatV = true := List.all_eq_true.mpr fun v m => by
  obtain ⟨y, _, rfl⟩ := List.mem_map.mp m
  rfl
def sp_sdue : Sp := fun vs H Q _ => ∃ (l m : Addr) (row ws : List Str), vs = [.ref l, .ref m] ∧ H l = some (.lst (row.map V.str)) ∧ H m = some (.lst (ws.map V.str)) ∧ row.length ≤ 20 ∧ ws.length ≤ 20 ∧
  (∀ z, ws.find? (noIn row) = some z → ∀ q H', Same H H' → H q = none → H' q = some (.tup (unkT z)) → Q (.ref q) H') ∧
  (ws.find? (noIn row) = none → ∀ q H', Same H H' → H q = none → H' q = some (.lst ((byRank row ws).map V.str)) → Q (.ref q) H')
section
variable {P : Program} {w : World} {K : PySem.W.Frag} {mg : Str → Option Value} {base : Heap}
theorem ok_sdue (T : Tx K mg) : FnOk P w K mg base CX0 1 (He.fAd K at_law_sort_due) (fdOf K at_law_sort_due) ["row", "wanted"] sp_sdue := by
  refine T.F_law_sort_due.ok sc_law_sort_due (fun vs H Q E h => ?_) (fun cdv A outer s H vs Q E hr h => ?_)
  · obtain ⟨_, _, _, _, rfl, _⟩ := h
    rfl
  obtain ⟨l, m, row, ws, rfl, hl, hm, few, fewn, kU, k⟩ := h
  refine ⟨_, PSs.nox (pss_cutT (ps_for PassesOwn.never rfl (pi_list (pv 1)) (pg_name (i := 2) sc_law_sort_due.nd rfl (by first | exact .inl rfl | exact .inr rfl))
     (pss_one (ps_if (pt_cmpR op_ninA (pv 2) (pv 0) (by rfl))
      (pss_one (ps_ret (pe_tup (pa_cons pe_str (pa_cons (pv 2) (pa_cons pe_bl (pa_cons pe_bl pa_nil)))))))
      pss_nil)))
    (pss_cons (ps_set (i := 3) sc_law_sort_due.nd rfl (by first | exact .inl rfl | exact .inr rfl) (pe_lst pa_nil))
    (pss_cons (ps_for PassesOwn.never rfl (pi_list (pv 0)) (pg_name (i := 2) sc_law_sort_due.nd rfl (by first | exact .inl rfl | exact .inr rfl))
     (pss_one (ps_set (i := 3) sc_law_sort_due.nd rfl (by first | exact .inl rfl | exact .inr rfl) (pe_op op_addA (pv 3) (pe_lc (own := [("other", 4)]) rfl sc_law_sort_due.nd (pi_list (pv 1)) (blkOk_by (N := ["row", "wanted", "name", "result", "other"]) (sc := defScope s_law_sort_due) (by decide +kernel)) (fun _ _ _ _ _ => (pg_name (i := 4) sc_law_sort_due.nd rfl (by first | exact .inl rfl | exact .inr rfl))) (fun _ _ _ _ _ => (pts_one (pt_cmpR op_eqA (pv 4) (pv 2) (nomark _)))) (fun _ _ _ _ _ => (pv 4)))))))
    (pss_one (ps_ret (pv 3)))))), ?_⟩
  dsimp only [cxOf, Cx.nox, Cx.wish, L2.start, List.map, List.length, List.replicate, List.append]
  have sL : SqL K H l (row.map V.str) := SqL.of hl
  have sM : SqL K H m (ws.map V.str) := SqL.of hm
  have fl := flat_strs row
  have grow : ∀ (i : Nat) (z : Str), ws[i]? = some z → (ws.take i).find? (noIn row) = none → z ∈ row → (ws.take (i + 1)).find? (noIn row) = none := fun i z e q g => by
    rw [List.take_succ, e, List.find?_append, q]
    simp [noIn, g]
  have stop : ∀ (i : Nat) (z : Str), ws[i]? = some z → (ws.take i).find? (noIn row) = none → z ∉ row → ws.find? (noIn row) = some z := fun i z e q g => by
    obtain ⟨hi, e⟩ := List.getElem?_eq_some_iff.mp e
    rw [← List.take_append_drop i ws, List.find?_append, q, List.drop_eq_getElem_cons hi, e]
    simp [noIn, g]
  refine ⟨fun σ H' => Here (∃ o, σ = [some (.ref l), some (.ref m), o, none, none] ∧ H' = H ∧ ws.find? (noIn row) = none), ?_, fun σ H' y => ?_⟩
  · walk_at "rd"
    refine for_list (xs := ws.map V.str) (fun i σ H' => Here (∃ o, σ = [some (.ref l), some (.ref m), o, none, none] ∧ H' = H ∧ (ws.take i).find? (noIn row) = none)) (.mk ⟨none, rfl, rfl, rfl⟩) (fun i σ H' _ y => ?_) (fun i v σ H' e y => ?_) (fun σ H' y => ?_)
    · obtain ⟨o, _, rfl, _⟩ := y.out
      exact sM
    · obtain ⟨o, rfl, rfl, q⟩ := y.out
      rw [List.getElem?_map] at e
      obtain ⟨z, e1, rfl⟩ := Option.map_eq_some_iff.mp e
      walk_at "rd"
      refine ite2 (fun g => ?_) (fun g => ?_)
      · rw [inV_strs] at g
        have mm : z ∉ row := by simpa using g
        walk_at "rd"
        intro t nt
        exact kU z (stop i z e1 q mm) t _ (same_new nt) nt upd_same
      · rw [inV_strs] at g
        have mm : z ∈ row := by simpa using g
        exact .mk ⟨_, rfl, rfl, grow i z e1 q mm⟩
    · obtain ⟨o, rfl, rfl, q⟩ := y.out
      rw [List.length_map, List.take_length] at q
      exact .mk ⟨_, rfl, rfl, q⟩
  · obtain ⟨o, rfl, rfl, ok⟩ := y.out
    walk_at "rd"
    intro r0 nr0
    have s0 := same_new (o := .lst []) nr0
    walk_at "rd"
    refine for_list (xs := row.map V.str) (fun i σ H'' => Here (∃ (r : Addr) (o2 o4 : Option V), σ = [some (.ref l), some (.ref m), o2, some (.ref r), o4] ∧ Same H' H'' ∧ H' r = none ∧ H'' r = some (.lst ((byRank (row.take i) ws).map V.str)))) (.mk ⟨r0, _, _, rfl, s0, nr0, upd_same⟩) (fun i σ H'' _ y => ?_) (fun i v σ H'' e y => ?_) (fun σ H'' y => ?_)
    · obtain ⟨_, _, _, _, s1, _⟩ := y.out
      exact SqL.of (s1 _ _ hl)
    · obtain ⟨r, o2, o4, rfl, s1, nr, hr1⟩ := y.out
      rw [List.getElem?_map] at e
      obtain ⟨u, e1, rfl⟩ := Option.map_eq_some_iff.mp e
      have sM1 : SqL K H'' m (ws.map V.str) := SqL.of (s1 _ _ hm)
      walk_at "rd"
      intro D nD
      refine lc_list (xs := ws.map V.str) (fun j H3 => Here (Same H'' H3 ∧ H3 D = some (.lst (((ws.take j).filter fun o => decide (o = u)).map V.str)))) (.mk ⟨same_new nD, upd_same⟩) (fun j H3 hj y => ?_) (fun j x H3 e y => ?_) (fun H3 y => ?_)
      · obtain ⟨s2, _⟩ := y.out
        exact SqL.of (s2 _ _ (s1 _ _ hm))
      · obtain ⟨s2, hD⟩ := y.out
        rw [List.getElem?_map] at e
        obtain ⟨x, e3, rfl⟩ := Option.map_eq_some_iff.mp e
        have e2 : (ws.take (j + 1)).filter (fun o => decide (o = u)) = (ws.take j).filter (fun o => decide (o = u)) ++ (if x = u then [x] else []) := by
          rw [List.take_succ, e3, List.filter_append]
          by_cases q : x = u <;> simp [q]
        walk_at "rd"
        refine ite2 (fun g => ?_) (fun g => ?_)
        · have g : x = u := by simpa using g
          walk_at "rd"
          refine ⟨_, hD, ?_, .mk ⟨fun b o q => by rw [upd_ne (ne_of_none q nD)]; exact s2 _ _ q, ?_⟩⟩
          · have := (List.filter_sublist (p := fun o => decide (o = u)) (l := ws.take j)).length_le
            rw [List.length_take] at this
            rw [List.length_map, sizeLine_eq]
            omega
          · rw [upd_same, e2, if_pos g, List.map_append]
            rfl
        · have g : x ≠ u := by simpa using g
          refine .mk ⟨s2, ?_⟩
          rw [e2, if_neg g, List.append_nil]
          exact hD
      · obtain ⟨s2, hD⟩ := y.out
        rw [List.length_map, List.take_length] at hD
        have hr2 := s2 _ _ hr1
        have b1 := byRank_len (row.take i) ws
        have b2 : (row.take i).length * ws.length ≤ 20 * 20 := Nat.mul_le_mul (by rw [List.length_take]; omega) fewn
        have b3 := (List.filter_sublist (p := fun o => decide (o = u)) (l := ws)).length_le
        refine .inr (.inr (.inl ⟨r, D, _, _, rfl, rfl, hr2, hD, by rw [List.length_map, List.length_map, sizeLine_eq]; omega, fun q nq => ?_⟩))
        walk_at "rd"
        have s3 := (s1.trans s2).trans (same_new (o := .lst ((byRank (row.take i) ws).map V.str ++ (ws.filter fun o => decide (o = u)).map V.str)) nq)
        refine .mk ⟨q, _, _, rfl, s3, ((s1.trans s2).free nq), ?_⟩
        rw [upd_same, List.take_succ, e1, Option.toList_some, byRank_snoc, List.map_append]
    · obtain ⟨r, o2, o4, rfl, s1, nr, hr1⟩ := y.out
      rw [List.length_map, List.take_length] at hr1
      walk_at "rd"
      exact k ok r _ s1 nr hr1
end
end K24
namespace K24
open PySem PySem.Spec PyProof.Rows L2 TK
/-- what trying to make an order of these tells -/
def tryD (xs : List Str) : TK.D := match xs.find? bad with
  | some z => .tup [.str "refused", .tup [.bl true, .bl false, .bl false, .bl true], .str z]
  | none => if xs.Nodup then .tup [.str "made", .tup (xs.map TK.D.str)] else .tup [.str "refused", .tup [.bl false, .bl true, .bl false, .bl true], .non]
theorem try_fits (xs : List Str) : Fits 4 (tryD xs) := by
  unfold tryD
  split
  · intro d hd
    simp only [List.mem_cons, List.not_mem_nil, or_false] at hd
    rcases hd with rfl | rfl | rfl
    · trivial
    · intro e he
      simp only [List.mem_cons, List.not_mem_nil, or_false] at he
      rcases he with rfl | rfl | rfl | rfl <;> trivial
    · trivial
  · split
    · intro d hd
      simp only [List.mem_cons, List.not_mem_nil, or_false] at hd
      rcases hd with rfl | rfl
      · trivial
      · intro e he
        obtain ⟨y, _, rfl⟩ := List.mem_map.mp he
        trivial
    · intro d hd
      simp only [List.mem_cons, List.not_mem_nil, or_false] at hd
      rcases hd with rfl | rfl | rfl
      · trivial
      · intro e he
        simp only [List.mem_cons, List.not_mem_nil, or_false] at he
        rcases he with rfl | rfl | rfl | rfl <;> trivial
      · trivial
theorem strs_is {H : Hp} : ∀ {row : List Str}, (∀ y ∈ row, y.length ≤ sizeLine) → AllI (Is H) (row.map V.str) (row.map TK.D.str)
  | [], _ => .nil
  | y :: row, h => .cons (.str y (h y List.mem_cons_self)) (strs_is fun z m => h z (List.mem_cons_of_mem _ m))
def sp_try (K : PySem.W.Frag) : Sp := fun vs H Q _ => ∃ (l : Addr) (xs : List Str), vs = [.ref l] ∧ (H l = some (.lst (xs.map V.str)) ∨ PTup H l (xs.map V.str)) ∧ (∀ z ∈ xs, z.length ≤ 1000) ∧ xs.length ≤ 100 ∧ ∀ q H', Same H H' → Is H' (.ref q) (tryD xs) → Q (.ref q) H'
section
variable {w : World} {K : PySem.W.Frag} {mg : Str → Option Value} {base : Heap}
theorem ok_try (T : Tx K mg) : FnOk PP w K mg base CX0 8 (He.fAd K at_law_try) (fdOf K at_law_try) ["row"] (sp_try K) := by
  have G_init := ok_init (w := w) (base := base) T
  refine T.F_law_try.ok sc_law_try (fun vs H Q E h => ?_) (fun cdv A outer s H vs Q E hr h => ?_)
  · obtain ⟨_, _, rfl, _⟩ := h
    rfl
  obtain ⟨l, xs, rfl, hl, hz, few, k⟩ := h
  have cl := T.cl_KeyOrder
  have nn := T.n_KeyOrder_names
  refine ⟨_, PSs.nox (pss_cons (ps_try_as (i := 2) (Wout := fun _ _ _ _ => False) rfl rfl sc_law_try.nd rfl rfl ⟨rfl, by decide, .inl T.m_ElseputError⟩ takes0
    (fun W pn xe tk _ => (pss_one (ps_set (i := 1) sc_law_try.nd rfl (by first | exact .inl rfl | exact .inr rfl) (pe_makeS T.mk_KeyOrder G_init (hr.mono (by decide)) (by rfl) T.m_KeyOrder T.b_KeyOrderU_initU (fun σ => passAt tk σ) (pa_cons (pv 0) pa_nil)))))
    (fun a oe cls d pn hz hf => (pss_cons (ps_set (i := 3) sc_law_try.nd rfl (by first | exact .inl rfl | exact .inr rfl) pe_non)
      (pss_cons (ps_if (pt_val (pe_callB (call_isE hz hf) (by rfl) T.z_isinstance (by decide +kernel) (pa_cons (pv 2) (pa_cons (pe_globE (v := .ref (He.ga K "BadName")) (by rfl) ⟨_, T.m_BadName, rfl⟩) pa_nil)))) (pss_one (ps_set (i := 3) sc_law_try.nd rfl (by first | exact .inl rfl | exact .inr rfl) (pe_xf T.o_BadName.f (T.o_BadName.n "name" (by simp)) hz hf (pv 2)))) pss_nil)
      (pss_cons (ps_set (i := 4) sc_law_try.nd rfl (by first | exact .inl rfl | exact .inr rfl) (pe_tup (pa_cons (pe_callB (call_isE hz hf) (by rfl) T.z_isinstance (by decide +kernel) (pa_cons (pv 2) (pa_cons (pe_globE (v := .ref (He.ga K "BadName")) (by rfl) ⟨_, T.m_BadName, rfl⟩) pa_nil))) (pa_cons (pe_callB (call_isE hz hf) (by rfl) T.z_isinstance (by decide +kernel) (pa_cons (pv 2) (pa_cons (pe_globE (v := .ref (He.ga K "BadOrder")) (by rfl) ⟨_, T.m_BadOrder, rfl⟩) pa_nil))) (pa_cons (pe_callB (call_isE hz hf) (by rfl) T.z_isinstance (by decide +kernel) (pa_cons (pv 2) (pa_cons (pe_globE (v := .ref (He.ga K "UnknownName")) (by rfl) ⟨_, T.m_UnknownName, rfl⟩) pa_nil))) (pa_cons (pe_callB (call_isE hz hf) (by rfl) T.z_isinstance (by decide +kernel) (pa_cons (pv 2) (pa_cons (pe_bltn (by rfl) T.z_ValueError (by decide +kernel) (v := .ty "ValueError") rfl) pa_nil))) pa_nil))))))
      (pss_one (ps_ret (pe_tup (pa_cons pe_str (pa_cons (pv 4) (pa_cons (pv 3) pa_nil))))))))))) (pss_one (ps_ret (pe_tup (pa_cons pe_str (pa_cons (pe_fld (pv 1) (by rfl)) pa_nil)))))), ?_⟩
  dsimp only [cxOf, Cx.nox, Cx.wish, L2.start, List.map, List.length, List.replicate, List.append]
  walk_at "rd"
  refine make_ord (Same.refl _) hl hz few (fun z hz1 d H' s1 hd => ?_) (fun hz1 nd H' s1 => ?_) (fun hz1 nd o H' s1 no O => ?_)
  · refine ⟨true, T.c_BadName_ElseputError, fun _ a na => ?_, fun z => nomatch z⟩
    walk_at "rd"
    refine ⟨He.ga K "BadName", .ref (He.ga K "BadName"), .ref (He.ga K "BadName"), true, rfl, T.o_BadName.e, rfl, .own _, T.k_BadName_BadName, .inr ⟨d, _, rfl, hd⟩, ?_⟩
    walk_at "rd"
    refine ⟨d, _, .str z, rfl, hd, rfl, ?_⟩
    walk_at "rd"
    refine ⟨He.ga K "BadName", .ref (He.ga K "BadName"), .ref (He.ga K "BadName"), true, rfl, T.o_BadName.e, rfl, .own _, T.k_BadName_BadName, .inr ⟨d, _, rfl, hd⟩, ?_⟩
    walk_at "rd"
    refine ⟨He.ga K "BadName", .ref (He.ga K "BadOrder"), .ref (He.ga K "BadOrder"), false, rfl, T.o_BadName.e, rfl, .own _, T.k_BadName_BadOrder, .inr ⟨d, _, rfl, hd⟩, ?_⟩
    walk_at "rd"
    refine ⟨He.ga K "BadName", .ref (He.ga K "UnknownName"), .ref (He.ga K "UnknownName"), false, rfl, T.o_BadName.e, rfl, .own _, T.k_BadName_UnknownName, .inr ⟨d, _, rfl, hd⟩, ?_⟩
    walk_at "rd"
    refine ⟨He.ga K "BadName", .ty "ValueError", .type "ValueError", true, rfl, T.o_BadName.e, rfl, .ty _, T.k_BadName_ValueError, .inr ⟨d, _, rfl, hd⟩, ?_⟩
    walk_at "rd"
    intro t nt
    walk_at "rd"
    intro q nq
    refine k q _ (s1.trans ((same_new nt).trans (same_new nq))) ?_
    rw [tryD, hz1]
    refine .tup (.inl upd_same) (Nat.le_of_ble_eq_true rfl) (.cons (.str _ (by decide)) (.cons (.tup (.inl (by rw [upd_ne (ne_of_none upd_same nq)]; exact upd_same)) (Nat.le_of_ble_eq_true rfl) (.cons (.bl _) (.cons (.bl _) (.cons (.bl _) (.cons (.bl _) .nil))))) (.cons (.str z (line_le (hz z (List.mem_of_find?_eq_some hz1)) (by decide))) .nil)))
  · refine ⟨true, T.c_BadOrder_ElseputError, fun _ a na => ?_, fun z => nomatch z⟩
    walk_at "rd"
    refine ⟨He.ga K "BadOrder", .ref (He.ga K "BadName"), .ref (He.ga K "BadName"), false, rfl, T.o_BadOrder.e, rfl, .own _, T.k_BadOrder_BadName, .inl rfl, ?_⟩
    walk_at "rd"
    refine ⟨He.ga K "BadOrder", .ref (He.ga K "BadName"), .ref (He.ga K "BadName"), false, rfl, T.o_BadOrder.e, rfl, .own _, T.k_BadOrder_BadName, .inl rfl, ?_⟩
    walk_at "rd"
    refine ⟨He.ga K "BadOrder", .ref (He.ga K "BadOrder"), .ref (He.ga K "BadOrder"), true, rfl, T.o_BadOrder.e, rfl, .own _, T.k_BadOrder_BadOrder, .inl rfl, ?_⟩
    walk_at "rd"
    refine ⟨He.ga K "BadOrder", .ref (He.ga K "UnknownName"), .ref (He.ga K "UnknownName"), false, rfl, T.o_BadOrder.e, rfl, .own _, T.k_BadOrder_UnknownName, .inl rfl, ?_⟩
    walk_at "rd"
    refine ⟨He.ga K "BadOrder", .ty "ValueError", .type "ValueError", true, rfl, T.o_BadOrder.e, rfl, .ty _, T.k_BadOrder_ValueError, .inl rfl, ?_⟩
    walk_at "rd"
    intro t nt
    walk_at "rd"
    intro q nq
    refine k q _ (s1.trans ((same_new nt).trans (same_new nq))) ?_
    rw [tryD, hz1, if_neg nd]
    refine .tup (.inl upd_same) (Nat.le_of_ble_eq_true rfl) (.cons (.str _ (by decide)) (.cons (.tup (.inl (by rw [upd_ne (ne_of_none upd_same nq)]; exact upd_same)) (Nat.le_of_ble_eq_true rfl) (.cons (.bl _) (.cons (.bl _) (.cons (.bl _) (.cons (.bl _) .nil))))) (.cons .non .nil)))
  · walk_at "rd"
    obtain ⟨dx, t, h1, h2⟩ := O
    refine ⟨o, CO K, dx, _, .ref t, rfl, h1, cl, nn, rfl, ?_⟩
    walk_at "rd"
    intro q nq
    refine k q _ (s1.trans (same_new nq)) ?_
    rw [tryD, hz1]
    rw [if_pos nd]
    obtain ⟨ot, _, h3⟩ := h2
    refine .tup (.inl upd_same) (Nat.le_of_ble_eq_true rfl) (.cons (.str _ (by decide)) (.cons (.tup (.inr ⟨ot, by rw [upd_ne (ne_of_none h3 nq)]; exact h3⟩) (by rw [List.length_map, sizeLine_eq]; omega) (strs_is fun z m => line_le (hz z m) (by decide))) .nil))
end
end K24
namespace K24
open PySem PySem.Spec PyProof.Rows L2 TK
def sp_due : Sp := fun vs H Q _ => ∃ (l m : Addr) (xs ns : List Str), vs = [.ref l, .ref m] ∧ H l = some (.lst (xs.map V.str)) ∧ H m = some (.lst (ns.map V.str)) ∧ xs.length ≤ 20 ∧ ns.length ≤ 20 ∧ (∀ z ∈ xs, z.length ≤ 1000) ∧ (∀ z ∈ xs, z ∈ ns ↔ isName z = true) ∧ ∀ q H', Same H H' → Is H' (.ref q) (tryD xs) → Q (.ref q) H'
section
variable {P : Program} {w : World} {K : PySem.W.Frag} {mg : Str → Option Value} {base : Heap}
theorem ok_due (T : Tx K mg) : FnOk P w K mg base CX0 1 (He.fAd K at_law_due) (fdOf K at_law_due) ["row", "names"] sp_due := by
  refine T.F_law_due.ok sc_law_due (fun vs H Q E h => ?_) (fun cdv A outer s H vs Q E hr h => ?_)
  · obtain ⟨_, _, _, _, rfl, _⟩ := h
    rfl
  obtain ⟨l, m, xs, ns, rfl, hl, hm, few, fewn, hz, hn, k⟩ := h
  refine ⟨_, PSs.nox (pss_cutT (ps_for PassesOwn.never rfl (pi_list (pv 0)) (pg_name (i := 2) sc_law_due.nd rfl (by first | exact .inl rfl | exact .inr rfl))
     (pss_one (ps_if (pt_cmpR op_ninA (pv 2) (pv 1) (by rfl))
      (pss_one (ps_ret (pe_tup (pa_cons pe_str (pa_cons (pe_tup (pa_cons pe_bl (pa_cons pe_bl (pa_cons pe_bl (pa_cons pe_bl pa_nil))))) (pa_cons (pv 2) pa_nil))))))
      pss_nil)))
    (pss_cons (ps_for PassesOwn.never rfl (pi_range1 rfl T.z_range (pa_cons (pe_callB call_lenA (by rfl) T.z_len PySem.boot_len (pa_cons (pv 0) pa_nil)) pa_nil)) (pg_name (i := 3) sc_law_due.nd rfl (by first | exact .inl rfl | exact .inr rfl))
     (pss_one (ps_if (pt_cmpR op_inA (pe_ix ix_A (pv 0) (pv 3) (fun _ _ => rfl)) (pe_slice sl_A (pv 0) po_none (po_some (pv 3))) (by rfl))
      (pss_one (ps_ret (pe_tup (pa_cons pe_str (pa_cons (pe_tup (pa_cons pe_bl (pa_cons pe_bl (pa_cons pe_bl (pa_cons pe_bl pa_nil))))) (pa_cons pe_non pa_nil))))))
      pss_nil)))
    (pss_one (ps_ret (pe_tup (pa_cons pe_str (pa_cons (pe_callTy call_tuple_of (by rfl) T.z_tuple (by decide +kernel) (pa_cons (pv 0) pa_nil)) pa_nil))))))), ?_⟩
  dsimp only [cxOf, Cx.nox, Cx.wish, L2.start, List.map, List.length, List.replicate, List.append]
  have sL : SqL K H l (xs.map V.str) := SqL.of hl
  have sM : SqL K H m (ns.map V.str) := SqL.of hm
  have fl := flat_strs ns
  have hml : (xs.map V.str).length = xs.length := List.length_map ..
  have hz' : ∀ z ∈ xs, z.length ≤ sizeLine := fun z m => line_le (hz z m) (by decide)
  have grow : ∀ (i : Nat) (z : Str), xs[i]? = some z → (xs.take i).find? bad = none → isName z = true → (xs.take (i + 1)).find? bad = none := fun i z e q g => by
    rw [List.take_succ, e, List.find?_append, q]
    simp [bad, g]
  have stop : ∀ (i : Nat) (z : Str), xs[i]? = some z → (xs.take i).find? bad = none → isName z = false → xs.find? bad = some z := fun i z e q g => by
    obtain ⟨hi, e⟩ := List.getElem?_eq_some_iff.mp e
    rw [← List.take_append_drop i xs, List.find?_append, q, List.drop_eq_getElem_cons hi, e]
    simp [bad, g]
  refine ⟨fun σ H' => Here (∃ o, σ = [some (.ref l), some (.ref m), o, none] ∧ H' = H ∧ xs.find? bad = none), ?_, fun σ H' y => ?_⟩
  · walk_at "rd"
    refine for_list (xs := xs.map V.str) (fun i σ H' => Here (∃ o, σ = [some (.ref l), some (.ref m), o, none] ∧ H' = H ∧ (xs.take i).find? bad = none)) (.mk ⟨none, rfl, rfl, rfl⟩) (fun i σ H' _ y => ?_) (fun i v σ H' e y => ?_) (fun σ H' y => ?_)
    · obtain ⟨o, _, rfl, _⟩ := y.out
      exact sL
    · obtain ⟨o, rfl, rfl, q⟩ := y.out
      rw [List.getElem?_map] at e
      obtain ⟨z, e1, rfl⟩ := Option.map_eq_some_iff.mp e
      have mz := List.mem_of_getElem? e1
      walk_at "rd"
      refine ite2 (fun g => ?_) (fun g => ?_)
      · rw [inV_strs] at g
        have mm : z ∉ ns := by simpa using g
        have b : isName z = false := by
          cases q2 : isName z with
          | false => rfl
          | true => exact (mm ((hn z mz).mpr q2)).elim
        walk_at "rd"
        intro t nt
        walk_at "rd"
        intro r nr
        refine k r _ ((same_new nt).trans (same_new nr)) ?_
        rw [tryD, stop i z e1 q b]
        exact .tup (.inl upd_same) (Nat.le_of_ble_eq_true rfl) (.cons (.str _ (by decide)) (.cons (.tup (.inl (by rw [upd_ne (ne_of_none upd_same nr)]; exact upd_same)) (Nat.le_of_ble_eq_true rfl) (.cons (.bl _) (.cons (.bl _) (.cons (.bl _) (.cons (.bl _) .nil))))) (.cons (.str z (hz' z mz)) .nil)))
      · rw [inV_strs] at g
        have mm : z ∈ ns := by simpa using g
        exact .mk ⟨_, rfl, rfl, grow i z e1 q ((hn z mz).mp mm)⟩
    · obtain ⟨o, rfl, rfl, q⟩ := y.out
      rw [List.length_map, List.take_length] at q
      exact .mk ⟨_, rfl, rfl, q⟩
  · obtain ⟨o, rfl, rfl, ok⟩ := y.out
    clear fl fewn hn sM
    walk_at "r1"
    refine .inr ⟨l, _, rfl, .inl sL, ?_⟩
    rw [hml]
    refine ⟨_, rfl, by omega, by omega, ?_⟩
    refine for_range (fun i σ H'' => Here (∃ o3, σ = [some (.ref l), some (.ref m), o, o3] ∧ Same H' H'' ∧ (xs.take i).Nodup)) (.mk ⟨none, rfl, Same.refl _, by simp⟩) (fun i σ H'' hi y => ?_) (fun σ H'' y => ?_)
    · obtain ⟨o3, rfl, s1, nd⟩ := y.out
      have hi : i < xs.length := by omega
      have hl1 := s1 _ _ hl
      have sL1 : SqL K H'' l (xs.map V.str) := SqL.of hl1
      have ix : atI (xs.map V.str) ((0 : Int) + (i : Nat)) = some (.str xs[i]) := by rw [Int.zero_add]; exact atI_nat (by rw [List.getElem?_map, List.getElem?_eq_getElem hi]; rfl)
      have hcut : cutV (xs.map V.str) none (some ((0 : Int) + (i : Nat))) = (xs.take i).map V.str := by
        rw [cutV_to (by omega), List.map_take]
        congr 1
        omega
      have fl := flat_strs (xs.take i)
      walk_at "rd"
      refine .inr (.inl ⟨l, _, rfl, sL1, fun D nD => ?_⟩)
      rw [hcut]
      have hD : upd H'' D (.lst ((xs.take i).map V.str)) D = some (.lst ((xs.take i).map V.str)) := upd_same
      have s2 := s1.trans (same_new (o := .lst ((xs.take i).map V.str)) nD)
      generalize upd H'' D (.lst ((xs.take i).map V.str)) = G at hD s2 ⊢
      walk_at "rd"
      refine ite2 (fun g => ?_) (fun g => ?_)
      · rw [inV_strs] at g
        have mm : xs[i] ∈ xs.take i := by simpa using g
        have nn : ¬ xs.Nodup := fun h => by
          rw [← List.take_append_drop i xs, List.drop_eq_getElem_cons hi] at h
          exact (List.nodup_append.mp h).2.2 _ mm _ List.mem_cons_self rfl
        walk_at "rd"
        intro t nt
        walk_at "rd"
        intro r nr
        refine k r _ (s2.trans ((same_new nt).trans (same_new nr))) ?_
        rw [tryD, ok]
        rw [if_neg nn]
        exact .tup (.inl upd_same) (Nat.le_of_ble_eq_true rfl) (.cons (.str _ (by decide)) (.cons (.tup (.inl (by rw [upd_ne (ne_of_none upd_same nr)]; exact upd_same)) (Nat.le_of_ble_eq_true rfl) (.cons (.bl _) (.cons (.bl _) (.cons (.bl _) (.cons (.bl _) .nil))))) (.cons .non .nil)))
      · rw [inV_strs] at g
        have mm : xs[i] ∉ xs.take i := by simpa using g
        refine .mk ⟨_, rfl, s2, ?_⟩
        rw [List.take_succ, List.getElem?_eq_getElem hi, List.nodup_append]
        refine ⟨nd, List.pairwise_singleton _ _, fun a ha b hb => ?_⟩
        cases List.mem_singleton.mp hb
        exact fun e => mm (e ▸ ha)
    · obtain ⟨o3, rfl, s1, nd⟩ := y.out
      have e : xs.take (xs.length : Int).toNat = xs := by rw [Int.toNat_natCast, List.take_length]
      rw [e] at nd
      have sL1 : SqL K H'' l (xs.map V.str) := SqL.of (s1 _ _ hl)
      walk_at "rd"
      refine ⟨l, _, rfl, .inl ⟨sL1, fun t nt => ?_⟩⟩
      walk_at "rd"
      intro r nr
      refine k r _ (s1.trans ((same_new nt).trans (same_new nr))) ?_
      rw [tryD, ok]
      rw [if_pos nd]
      exact .tup (.inl upd_same) (Nat.le_of_ble_eq_true rfl) (.cons (.str _ (by decide)) (.cons (.tup (.inl (by rw [upd_ne (ne_of_none upd_same nr)]; exact upd_same)) (by rw [List.length_map, sizeLine_eq]; omega) (strs_is hz')) .nil))
end
end K24
namespace K24
open PySem PySem.Spec PyProof.Rows L2 TK
def sp_fits (K : PySem.W.Frag) : Sp := fun vs H Q _ => ∃ (p l m : Addr) (row zs : List Str), vs = [.ref p, .ref l, .ref m] ∧ Ord K H p row ∧ Row row ∧ H l = some (.lst (row.map V.str)) ∧ H m = some (.lst (zs.map V.str)) ∧ zs.length ≤ 20 ∧ (∀ z ∈ zs, z.length ≤ 1000) ∧ ∀ H', Same H H' → Q (.bl true) H'
theorem fits_strs (row : List Str) (b : Bool) : Fits 4 (if b = true then .tup (row.map TK.D.str) else .lst (row.map TK.D.str)) := by
  cases b <;> (intro d hd; obtain ⟨y, _, rfl⟩ := List.mem_map.mp hd; trivial)
theorem unk_is {H : Hp} {q : Addr} {z : Str} (h : H q = some (.tup (unkT z))) (hz : z.length ≤ sizeLine) : Is H (.ref q) (.tup [.str "unknown", .str z, .bl true, .bl false]) :=
  .tup (.inl h) (Nat.le_of_ble_eq_true rfl) (.cons (.str _ (by decide)) (.cons (.str z hz) (.cons (.bl _) (.cons (.bl _) .nil))))
theorem unk_fits (z : Str) : Fits 4 (.tup [.str "unknown", .str z, .bl true, .bl false]) := by
  intro d hd
  simp only [List.mem_cons, List.not_mem_nil, or_false] at hd
  rcases hd with rfl | rfl | rfl | rfl <;> trivial
theorem idx_get {row : List Str} {z : Str} (m : z ∈ row) : (row.map V.str)[row.idxOf z]? = some (.str z) := by
  have h := List.idxOf_lt_length_iff.mpr m
  rw [List.getElem?_map, List.getElem?_eq_getElem h, List.getElem_idxOf h]
  rfl
theorem eq_str (z : Str) : eqV (.str z) (.str z) = true := by simp [eqV]
theorem idx_ahead {row : List Str} {z : Str} : ∀ (m : Nat) (z' : V), m < row.idxOf z → (row.map V.str)[m]? = some z' → eqV z' (.str z) = false := by
  intro m z' h e
  rw [List.getElem?_map] at e
  obtain ⟨u, e1, rfl⟩ := Option.map_eq_some_iff.mp e
  obtain ⟨hm, e2⟩ := List.getElem?_eq_some_iff.mp e1
  have n := PySem.SeqAt.lt_idxOf_ne h hm
  rw [e2] at n
  simp [eqV, n]
section
variable {w : World} {K : PySem.W.Frag} {mg : Str → Option Value} {base : Heap}
theorem ok_fits (T : Tx K mg) : FnOk PP w K mg base CX0 9 (He.fAd K at_law_fits) (fdOf K at_law_fits) ["order", "row", "asked"] (sp_fits K) := by
  have G_len := ok_len (P := PP) (w := w) (base := base) T
  have G_has := ok_has (P := PP) (w := w) (base := base) T
  have G_iter := ok_iter (P := PP) (w := w) (base := base) T
  have G_law_rank := ok_rank (w := w) (base := base) T
  have G_law_same := ok_law_same (P := PP) (w := w) (base := base) T 4
  refine T.F_law_fits.ok sc_law_fits (fun vs H Q E h => ?_) (fun cdv A outer s H vs Q E hr h => ?_)
  · obtain ⟨_, _, _, _, _, rfl, _⟩ := h
    rfl
  obtain ⟨p, l, m, row, zs, rfl, O, R, hl, hm, fewz, hz, k⟩ := h
  refine ⟨_, PSs.nox (pss_cutT (ps_if (PW.pt (pw_or (pt_not (pt_val (pe_call G_law_same (hr.mono (by first | decide | omega)) (by rfl) T.m_law_same T.F_law_same.kp T.b_law_same .nil pass0 (pa_cons (pe_fld (pv 0) (by rfl)) (pa_cons (pe_callTy call_tuple_of (by rfl) T.z_tuple (by decide +kernel) (pa_cons (pv 1) pa_nil)) pa_nil))))) (pw_or1 (pt_cmpR op_neA (pe_callB (call_lenO T.me_KeyOrder_len G_len (hr.mono (by decide)) T.b_KeyOrderU_lenU pass0) (by rfl) T.z_len PySem.boot_len (pa_cons (pv 0) pa_nil)) (pe_callB call_lenA (by rfl) T.z_len PySem.boot_len (pa_cons (pv 1) pa_nil)) (nomark _)))))
     (pss_one (ps_ret pe_bl))
     pss_nil)
    (pss_cutT (ps_if (pt_not (pt_val (pe_call G_law_same (hr.mono (by first | decide | omega)) (by rfl) T.m_law_same T.F_law_same.kp T.b_law_same .nil pass0 (pa_cons (pe_lc (own := [("name", 3)]) rfl sc_law_fits.nd (pi_own T.me_KeyOrder_iter G_iter (hr.mono (by decide)) T.b_KeyOrderU_iterU pass0 (pv 0)) (blkOk_by (N := ["order", "row", "asked", "name", "due"]) (sc := defScope s_law_fits) (by decide +kernel)) (fun _ _ _ _ _ => (pg_name (i := 3) sc_law_fits.nd rfl (by first | exact .inl rfl | exact .inr rfl))) (fun _ _ _ _ _ => pts_nil) (fun _ _ _ _ _ => (pv 3))) (pa_cons (pe_callTy call_list_of (by rfl) T.z_list (by decide +kernel) (pa_cons (pv 1) pa_nil)) pa_nil)))))
     (pss_one (ps_ret pe_bl))
     pss_nil)
    (pss_cons (ps_for PassesOwn.never rfl (pi_list (pv 2)) (pg_name (i := 3) sc_law_fits.nd rfl (by first | exact .inl rfl | exact .inr rfl))
     (pss_cons (ps_set (i := 4) sc_law_fits.nd rfl (by first | exact .inl rfl | exact .inr rfl) (pe_tup (pa_cons pe_str (pa_cons (pv 3) (pa_cons pe_bl (pa_cons pe_bl pa_nil))))))
     (pss_cutT (ps_if (pt_cmpR op_inA (pv 3) (pv 1) (by rfl))
      (pss_one (ps_set (i := 4) sc_law_fits.nd rfl (by first | exact .inl rfl | exact .inr rfl) (pe_bm PySem.F.plainAttrs_list PySem.F.slot_list_index PySem.F.type_list_index mt_index (pv 1) (pa_cons (pv 3) pa_nil))))
      pss_nil)
     (pss_one (ps_if (PW.pt (pw_or (pt_cmpR op_neA (pe_cmpR (op_inO T.me_KeyOrder_contains G_has (hr.mono (by decide)) T.b_KeyOrderU_containsU pass0) (pv 3) (pv 0) (by rfl)) (pe_cmpR op_inA (pv 3) (pv 1) (by rfl)) (nomark _)) (pw_or1 (pt_not (pt_val (pe_call G_law_same (hr.mono (by first | decide | omega)) (by rfl) T.m_law_same T.F_law_same.kp T.b_law_same .nil pass0 (pa_cons (pe_call G_law_rank (hr.mono (by first | decide | omega)) (by rfl) T.m_law_rank T.F_law_rank.kp T.b_law_rank .nil pass0 (pa_cons (pv 0) (pa_cons (pv 3) pa_nil))) (pa_cons (pv 4) pa_nil))))))))
      (pss_one (ps_ret pe_bl))
      pss_nil)))))
    (pss_one (ps_ret pe_bl))))), ?_⟩
  dsimp only [cxOf, Cx.nox, Cx.wish, L2.start, List.map, List.length, List.replicate, List.append]
  obtain ⟨dx, t, hp, ht⟩ := id O
  have cl := T.cl_KeyOrder
  have nn := T.n_KeyOrder_names
  have few := R.few
  have sL : SqL K H l (row.map V.str) := SqL.of hl
  have rz : ∀ y ∈ row, y.length ≤ sizeLine := fun y m => line_le (R.len m) (by decide)
  have hml : (row.map V.str).length = row.length := List.length_map ..
  have big : (row.map V.str).length ≤ sizeLine := by rw [hml, sizeLine_eq]; omega
  refine ⟨fun σ H' => Here (σ = [some (.ref p), some (.ref l), some (.ref m), none, none] ∧ Same H H'), ?_, fun σ H' y => ?_⟩
  · walk_at "rd"
    refine ⟨p, CO K, dx, _, .ref t, rfl, hp, cl, nn, rfl, ?_⟩
    walk_at "rd"
    refine ⟨l, _, rfl, .inl ⟨sL, fun q nq => ?_⟩⟩
    walk_at "rd"
    have s1 := same_new (o := .tup (row.map V.str)) nq
    have hq : upd H q (.tup (row.map V.str)) q = some (.tup (row.map V.str)) := upd_same
    generalize upd H q (.tup (row.map V.str)) = G1 at s1 hq ⊢
    refine ⟨.ref t, .ref q, .tup (row.map TK.D.str), rfl, .tup (.inr (let ⟨o, _, e⟩ := ht; ⟨o, s1 _ _ e⟩)) big (strs_is rz), .tup (.inl hq) big (strs_is rz), fits_strs row true, fun G2 s2 => ?_⟩
    have s2 := s1.trans s2
    clear s1 hq
    walk_at "rd"
    refine ⟨p, _, _, rfl, s2 _ _ hp, p, row, rfl, O.keep s2, _, rfl, ⟨by omega, by omega⟩, ?_⟩
    have sL2 : SqL K G2 l (row.map V.str) := SqL.of (s2 _ _ hl)
    walk_at "rd"
    exact ite2 (fun e => absurd e (by simp)) (fun _ => .mk ⟨rfl, s2⟩)
  obtain ⟨rfl, s0⟩ := y.out
  refine ⟨fun σ H'' => Here (σ = [some (.ref p), some (.ref l), some (.ref m), none, none] ∧ Same H H''), ?_, fun σ H' y => ?_⟩
  · walk_at "rd"
    refine ⟨p, dx, t, _, _, rfl, s0 _ _ hp, rfl, sqT_same s0 ht.sq, fun D nD => ?_⟩
    refine lc_tup (xs := row.map V.str) (fun i H'' => Here (Same H' H'' ∧ H'' D = some (.lst ((row.take i).map V.str)))) (.mk ⟨same_new nD, upd_same⟩) (fun i H'' hi y => ?_) (fun i x H'' e y => ?_) (fun H'' y => ?_)
    · obtain ⟨s3, _⟩ := y.out
      exact sqT_same (s0.trans s3) ht.sq
    · obtain ⟨s3, hD⟩ := y.out
      rw [List.getElem?_map] at e
      obtain ⟨u, e1, rfl⟩ := Option.map_eq_some_iff.mp e
      walk_at "rd"
      refine ⟨_, hD, ?_, .mk ⟨fun b o q => by rw [upd_ne (ne_of_none q nD)]; exact s3 _ _ q, by rw [upd_same, List.take_succ, e1, List.map_append]; rfl⟩⟩
      rw [List.length_map, List.length_take, sizeLine_eq]
      omega
    · obtain ⟨s3, hD⟩ := y.out
      rw [hml, List.take_length] at hD
      have s4 := s0.trans s3
      have hl4 := s4 _ _ hl
      walk_at "rd"
      refine ⟨l, _, rfl, .inl (SqL.of hl4), fun q nq => ?_⟩
      have s5 := s4.trans (same_new (o := .lst (row.map V.str)) nq)
      have hq : upd H'' q (.lst (row.map V.str)) q = some (.lst (row.map V.str)) := upd_same
      have hD2 : upd H'' q (.lst (row.map V.str)) D = some (.lst (row.map V.str)) := by rw [upd_ne (ne_of_none hD nq)]; exact hD
      generalize upd H'' q (.lst (row.map V.str)) = G3 at s5 hq hD2 ⊢
      walk_at "rd"
      refine ⟨.ref D, .ref q, .lst (row.map TK.D.str), rfl, .lst hD2 big (strs_is rz), .lst hq big (strs_is rz), fits_strs row false, fun G4 s6 => ?_⟩
      walk_at "rd"
      exact .mk ⟨rfl, s5.trans s6⟩
  obtain ⟨rfl, s0⟩ := y.out
  have hm' := s0 _ _ hm
  have sM : SqL K H' m (zs.map V.str) := SqL.of hm'
  walk_at "rd"
  refine for_list (xs := zs.map V.str) (fun i σ H'' => Here (∃ o3 o4, σ = [some (.ref p), some (.ref l), some (.ref m), o3, o4] ∧ Same H H'')) (.mk ⟨_, _, rfl, s0⟩) (fun i σ H'' _ y => ?_) (fun i v σ H'' e y => ?_) (fun σ H'' y => ?_)
  · obtain ⟨_, _, _, s1⟩ := y.out
    exact SqL.of (s1 _ _ hm)
  · obtain ⟨o3, o4, rfl, s1⟩ := y.out
    rw [List.getElem?_map] at e
    obtain ⟨z, e1, rfl⟩ := Option.map_eq_some_iff.mp e
    have lz := hz z (List.mem_of_getElem? e1)
    have lz' : z.length ≤ sizeLine := line_le lz (by decide)
    have fl : (row.map V.str).all flatV = true := List.all_eq_true.mpr fun v m => by obtain ⟨y, _, rfl⟩ := List.mem_map.mp m; rfl
    walk_at "rd"
    intro t1 nt1
    refine ⟨fun σ H3 => Here (∃ v, σ = [some (.ref p), some (.ref l), some (.ref m), some (.str z), some v] ∧ Same H H3 ∧ (z ∈ row → v = .int (row.idxOf z : Nat)) ∧ (z ∉ row → ∃ t, v = .ref t ∧ H3 t = some (.tup (unkT z)))), ?_, fun σ H3 y => ?_⟩
    · have sL1 : SqL K (upd H'' t1 (.tup [.str "unknown", .str z, .bl true, .bl false])) l (row.map V.str) := SqL.of (by rw [upd_ne (ne_of_none (s1 _ _ hl) nt1)]; exact s1 _ _ hl)
      walk_at "rd"
      refine ite2 (fun g => ?_) (fun g => ?_)
      · rw [inV_strs] at g
        have mz : z ∈ row := by simpa using g
        walk_at "rd"
        refine ⟨.inl ⟨rfl, _, sL1⟩, ?_⟩
        walk_at "rd"
        refine ⟨l, row.map V.str, .str z, row.idxOf z, .str z, rfl, rfl, sL1, rfl, fl, idx_get mz, eq_str z, idx_ahead, ?_⟩
        walk_at "rd"
        exact .mk ⟨_, rfl, s1.trans (same_new nt1), fun _ => rfl, fun h => (h mz).elim⟩
      · rw [inV_strs] at g
        have mz : z ∉ row := by simpa using g
        exact .mk ⟨_, rfl, s1.trans (same_new nt1), fun h => (mz h).elim, fun _ => ⟨t1, rfl, upd_same⟩⟩
    · obtain ⟨v, rfl, s3, v1, v2⟩ := y.out
      have sL3 : SqL K H3 l (row.map V.str) := SqL.of (s3 _ _ hl)
      walk_at "rd"
      refine ⟨p, dx, _, rfl, s3 _ _ hp, p, row, z, rfl, O.keep s3, lz, ?_⟩
      refine ⟨_, rfl, ?_⟩
      walk_at "rd"
      have e0 : (!decide (V.bl (id (inV (.str z) (row.map V.str))) = V.bl (inV (.str z) (row.map V.str)))) = false := by simp
      rw [e0]
      walk_at "rd"
      refine ⟨p, row, z, rfl, O.keep s3, lz, fun u hu nu q H4 s4 nq hq => ?_, fun mz H4 s4 => ?_⟩
      · subst hu
        obtain ⟨t3, rfl, ht3⟩ := v2 nu
        walk_at "rd"
        refine ⟨.ref q, .ref t3, _, rfl, unk_is hq lz', unk_is (s4 _ _ ht3) lz', unk_fits _, fun H5 s5 => ?_⟩
        walk_at "rd"
        exact .mk ⟨_, _, rfl, (s3.trans s4).trans s5⟩
      · obtain rfl := v1 mz
        walk_at "rd"
        refine ⟨.int (row.idxOf z : Nat), _, .int (row.idxOf z : Nat), rfl, .int _, .int _, trivial, fun H5 s5 => ?_⟩
        walk_at "rd"
        exact .mk ⟨_, _, rfl, (s3.trans s4).trans s5⟩
  · obtain ⟨_, _, rfl, s1⟩ := y.out
    walk_at "rd"
    exact k _ s1
end
end K24
namespace K24
open PySem PySem.Spec PyProof.Rows L2 TK
open LamX (ExtN Tabs TabB)
theorem strs_back {ys : List V} (h : ∀ v ∈ ys, ∃ x : Str, v = .str x) : ∃ xs : List Str, ys = xs.map V.str := by
  induction ys with
  | nil => exact ⟨[], rfl⟩
  | cons v ys ih =>
    obtain ⟨x, rfl⟩ := h v List.mem_cons_self
    obtain ⟨xs, rfl⟩ := ih fun v m => h v (List.mem_cons_of_mem _ m)
    exact ⟨x :: xs, rfl⟩
theorem StAt.ext {H H' : Hp} {st : Addr} (e : ExtN H H') (h : StAt H st) : StAt H' st := by
  obtain ⟨q, ns, z, h1, h2⟩ := h
  exact ⟨q, ns, z, e _ _ h1 (fun _ y => by cases y), e _ _ h2 (fun _ y => by cases y)⟩
/-- new to H, but for tables -/
def FreN (H : Hp) (D : Addr) : Prop := ∀ o, H D = some o → ∃ ps, o = .tbl ps
theorem FreN.of {H : Hp} {D : Addr} (h : H D = none) : FreN H D := fun o e => by rw [h] at e; cases e
theorem FreN.back {H H' : Hp} {D : Addr} (e : ExtN H H') (h : H' D = none) : FreN H D := fun o q => Classical.byContradiction fun n => by
  have := e _ _ q fun ps y => n ⟨ps, y⟩
  rw [h] at this
  cases this
theorem ext_put {H H' : Hp} {D : Addr} {o : HO} (e : ExtN H H') (f : FreN H D) : ExtN H (upd H' D o) := fun b u q n => by
  rw [upd_ne (fun z => by
    rw [z] at q
    obtain ⟨ps, y⟩ := f u q
    exact n ps y)]
  exact e b u q n
/-- the tables stand but where a list is written -/
theorem tabs_put {T : List (Addr × Str)} {H : Hp} {D : Addr} {xs ys : List V} (t : Tabs T H) (h : H D = some (.lst xs)) : Tabs T (upd H D (.lst ys)) := fun p hp => by
  obtain ⟨ps, h1, h2, h3⟩ := t p hp
  refine ⟨ps, by rw [upd_ne (fun z => by rw [z, h] at h1; cases h1)]; exact h1, h2, fun pos cv hc => ?_⟩
  obtain ⟨c, e1, e2⟩ := h3 pos cv hc
  exact ⟨c, e1, by rw [upd_ne (fun z => by rw [z, h] at e2; cases e2)]; exact e2⟩
theorem tabs_new {T : List (Addr × Str)} {H : Hp} {D : Addr} {o : HO} (t : Tabs T H) (h : H D = none) : Tabs T (upd H D o) := t.ext fun b u e => by rw [upd_ne (ne_of_none e h)]; exact e
theorem tabs_same {T : List (Addr × Str)} {H H' : Hp} (t : Tabs T H) (s : Same H H') : Tabs T H' := t.ext s
theorem Ord.put {K : PySem.W.Frag} {H : Hp} {p D : Addr} {row : List Str} {xs ys : List V} (O : Ord K H p row) (h : H D = some (.lst xs)) : Ord K (upd H D (.lst ys)) p row := by
  obtain ⟨dx, t, h1, ot, h0, h2⟩ := O
  exact ⟨dx, t, by rw [upd_ne (fun z => by rw [z, h] at h1; cases h1)]; exact h1, ot, h0, by rw [upd_ne (fun z => by rw [z, h] at h2; cases h2)]; exact h2⟩
/-- what stays through the law -/
structure Env (K : PySem.W.Frag) (H : Hp) (st nm rw zs p b : Addr) (ns row as : List Str) : Prop where
  st : StAt H st
  nm : H nm = some (.lst (ns.map V.str))
  rw : H rw = some (.lst (row.map V.str))
  zs : H zs = some (.lst (as.map V.str))
  p : Ord K H p row
  b : Ord K H b row.reverse
theorem Env.ext {K : PySem.W.Frag} {H H' : Hp} {st nm rw zs p b : Addr} {ns row as : List Str} (E : Env K H st nm rw zs p b ns row as) (e : ExtN H H') : Env K H' st nm rw zs p b ns row as :=
  ⟨StAt.ext e E.st, e _ _ E.nm (fun _ y => by cases y), e _ _ E.rw (fun _ y => by cases y), e _ _ E.zs (fun _ y => by cases y), E.p.ext e, E.b.ext e⟩
/-- what is known of the drawn names -/
structure Known (ns row as : List Str) (bd : Str) : Prop where
  l8 : ns.length = 8
  nd : ns.Nodup
  vn : ∀ y ∈ ns, isName y = true
  r1 : ∀ y ∈ row, y ∈ ns
  r2 : row.Nodup
  r3 : row.length ≤ 6
  as : as = ns ++ [bd]
  bb : isName bd = false
  bl : bd.length ≤ 1000
theorem Known.row {ns row as : List Str} {bd : Str} (k : Known ns row as bd) : Row row := ⟨fun y m => k.vn y (k.r1 y m), k.r2, Nat.le_trans k.r3 (by decide)⟩
theorem Known.back {ns row as : List Str} {bd : Str} (k : Known ns row as bd) : Row row.reverse := ⟨fun y m => k.vn y (k.r1 y (List.mem_reverse.mp m)), List.pairwise_reverse.mpr (k.r2.imp fun h => Ne.symm h), by rw [List.length_reverse]; exact Nat.le_trans k.r3 (by decide)⟩
theorem Known.a20 {ns row as : List Str} {bd : Str} (k : Known ns row as bd) : as.length ≤ 20 := by
  rw [k.as, List.length_append, k.l8, List.length_singleton]
  decide
theorem Known.n1000 {ns row as : List Str} {bd : Str} (k : Known ns row as bd) : ∀ z ∈ ns, z.length ≤ 1000 := fun z m => Nat.le_trans (isName_len (k.vn z m)) (by decide)
theorem Known.az {ns row as : List Str} {bd : Str} (k : Known ns row as bd) : ∀ z ∈ as, z.length ≤ 1000 := fun z m => by
  rw [k.as] at m
  rcases List.mem_append.mp m with m | m
  · exact k.n1000 z m
  · cases List.mem_singleton.mp m
    exact k.bl
end K24
namespace K24
open PySem PySem.Spec PyProof.Rows L2 TK
open LamX (ExtN Tabs TabB)
def sp_law (K : PySem.W.Frag) (P : Addr) : Sp := fun vs H Q _ => ∃ (a : Addr) (ns : List Int), vs = [.ref a] ∧ SqL K H a (ns.map V.int) ∧ ns.length ≤ 63 ∧ Tabs (tabs P) H ∧ ∀ H', Q (.bl true) H'
theorem law_pre (K : PySem.W.Frag) (P : Addr) (H : Hp) (a : Addr) (ns : List Int) (hl : ns.length ≤ 63) (hP : H P = some (.tbl #[])) (hS : SqL K H a (ns.map V.int)) : sp_law K P [.ref a] H (fun v _ => v = .bl true) fun _ _ _ => False := ⟨a, ns, rfl, hS, hl, fun p hp => by
  rw [List.mem_singleton.mp hp]
  exact LamX.TabS.nil hP, fun _ => rfl⟩
section
variable {w : World} {K : PySem.W.Frag} {mg : Str → Option Value} {base : Heap}
theorem ok_law (T : Tx K mg) {c Pt : Addr} (hc : (fdOf K at_KeyOrderU_callU).code = .ref c) (TB : TabB base mg c Pt) : FnOk PP w K mg base CX0 10 (He.fAd K at_law) (fdOf K at_law) ["script"] (sp_law K Pt) := by
  have G_law_state := ok_law_state (P := PP) (w := w) (base := base) T
  have G_law_draw := ok_law_draw (P := PP) (w := w) (base := base) T
  have G_law_pick := ok_law_pick (P := PP) (w := w) (base := base) T
  have G_law_mixed := ok_law_mixed (P := PP) (w := w) (base := base) T
  have G_law_names := ok_names (P := PP) (w := w) (base := base) T
  have G_law_bad_name := ok_bad (P := PP) (w := w) (base := base) T
  have G_law_due := ok_due (P := PP) (w := w) (base := base) T
  have G_law_try := ok_try (w := w) (base := base) T
  have G_law_sort := ok_sort (w := w) T hc TB
  have G_law_sort_due := ok_sdue (P := PP) (w := w) (base := base) T
  have G_law_fits := ok_fits (w := w) (base := base) T
  have G_KeyOrderU_initU := ok_init (w := w) (base := base) T
  have G_law_same := ok_law_same (P := PP) (w := w) (base := base) T 4
  refine T.F_law.ok sc_law (fun vs H Q E h => ?_) (fun cdv A outer s H vs Q E hr h => ?_)
  · obtain ⟨_, _, rfl, _⟩ := h
    rfl
  obtain ⟨a, is, rfl, hS, hl, hT, k⟩ := h
  refine ⟨_, PSs.nox (pss_cons (ps_set (i := 1) sc_law.nd rfl (by first | exact .inl rfl | exact .inr rfl) (pe_call G_law_state (hr.mono (by first | decide | omega)) (by rfl) T.m_law_state T.F_law_state.kp T.b_law_state .nil pass0 (pa_cons (pv 0) pa_nil)))
    (pss_cons (ps_set (i := 2) sc_law.nd rfl (by first | exact .inl rfl | exact .inr rfl) (pe_call G_law_names (hr.mono (by first | decide | omega)) (by rfl) T.m_law_names T.F_law_names.kp T.b_law_names .nil pass0 (pa_cons (pv 1) (pa_cons pe_int pa_nil))))
    (pss_cons (ps_set (i := 3) sc_law.nd rfl (by first | exact .inl rfl | exact .inr rfl) (pe_slice sl_A (pe_call G_law_mixed (hr.mono (by first | decide | omega)) (by rfl) T.m_law_mixed T.F_law_mixed.kp T.b_law_mixed .nil pass0 (pa_cons (pv 1) (pa_cons (pv 2) pa_nil))) po_none (po_some (pe_op op_sub pe_int (pe_call G_law_draw (hr.mono (by first | decide | omega)) (by rfl) T.m_law_draw T.F_law_draw.kp T.b_law_draw .nil pass0 (pa_cons (pv 1) (pa_cons pe_int pa_nil)))))))
    (pss_cons (ps_set (i := 4) sc_law.nd rfl (by first | exact .inl rfl | exact .inr rfl) (pe_call G_law_bad_name (hr.mono (by first | decide | omega)) (by rfl) T.m_law_bad_name T.F_law_bad_name.kp T.b_law_bad_name .nil pass0 (pa_cons (pv 1) (pa_cons (pe_ix ix_A (pv 2) pe_int (fun _ _ => rfl)) pa_nil))))
    (pss_cons (ps_set (i := 5) sc_law.nd rfl (by first | exact .inl rfl | exact .inr rfl) (pe_op op_addA (pv 2) (pe_lst (pa_cons (pv 4) pa_nil))))
    (pss_cons (ps_set (i := 6) sc_law.nd rfl (by first | exact .inl rfl | exact .inr rfl) (pe_callTy call_list_of (by rfl) T.z_list (by decide +kernel) (pa_cons (pv 3) pa_nil)))
    (pss_cons (ps_set (i := 7) sc_law.nd rfl (by first | exact .inl rfl | exact .inr rfl) (pe_make T.mk_KeyOrder G_KeyOrderU_initU (hr.mono (by first | decide | omega)) (by rfl) T.m_KeyOrder T.b_KeyOrderU_initU .nil passN (pa_cons (pv 6) pa_nil)))
    (pss_cons (ps_set (i := 8) sc_law.nd rfl (by first | exact .inl rfl | exact .inr rfl) (pe_make T.mk_KeyOrder G_KeyOrderU_initU (hr.mono (by first | decide | omega)) (by rfl) T.m_KeyOrder T.b_KeyOrderU_initU .nil passN (pa_cons (pe_callTy call_tuple_ofF (by rfl) T.z_tuple (by decide +kernel) (pa_cons (pe_revL (pv 3)) pa_nil)) pa_nil)))
    (pss_cons (ps_expr (pe_bm0 PySem.F.plainAttrs_list PySem.F.slot_list_reverse PySem.F.type_list_reverse mt_reverse (pv 6)))
    (pss_cutT (ps_expr (pe_bm PySem.F.plainAttrs_list PySem.F.slot_list_append PySem.F.type_list_append mt_append (pv 6) (pa_cons (pv 4) pa_nil)))
    (pss_cutT (ps_if (PW.pt (pw_or (pt_not (pt_val (pe_call G_law_fits (hr.mono (by first | decide | omega)) (by rfl) T.m_law_fits T.F_law_fits.kp T.b_law_fits .nil pass0 (pa_cons (pv 7) (pa_cons (pv 3) (pa_cons (pv 5) pa_nil)))))) (pw_or1 (pt_not (pt_val (pe_call G_law_fits (hr.mono (by first | decide | omega)) (by rfl) T.m_law_fits T.F_law_fits.kp T.b_law_fits .nil pass0 (pa_cons (pv 8) (pa_cons (pe_revL (pv 3)) (pa_cons (pv 5) pa_nil)))))))))
     (pss_one (ps_ret pe_bl))
     pss_nil)
    (pss_cons (ps_set (i := 9) sc_law.nd rfl (by first | exact .inl rfl | exact .inr rfl) (pe_lst pa_nil))
    (pss_cutT (ps_for PassesOwn.never rfl (pi_range1 rfl T.z_range (pa_cons (pe_op op_sub pe_int (pe_call G_law_draw (hr.mono (by first | decide | omega)) (by rfl) T.m_law_draw T.F_law_draw.kp T.b_law_draw .nil pass0 (pa_cons (pv 1) (pa_cons pe_int pa_nil)))) pa_nil)) (pg_name (i := 10) sc_law.nd rfl (by first | exact .inl rfl | exact .inr rfl))
     (pss_cons (ps_set (i := 11) sc_law.nd rfl (by first | exact .inl rfl | exact .inr rfl) (pv 2))
     (pss_cutT (ps_if (PW.pt (pw_and (pt_cmpR op_gt (pe_callB call_lenA (by rfl) T.z_len PySem.boot_len (pa_cons (pv 3) pa_nil)) pe_int (nomark _)) (pw_and1 (pt_cmpR op_ltA (pe_call G_law_draw (hr.mono (by first | decide | omega)) (by rfl) T.m_law_draw T.F_law_draw.kp T.b_law_draw .nil pass0 (pa_cons (pv 1) (pa_cons pe_int pa_nil))) pe_int (nomark _)))))
      (pss_one (ps_set (i := 11) sc_law.nd rfl (by first | exact .inl rfl | exact .inr rfl) (pv 3)))
      pss_nil)
     (pss_one (ps_expr (pe_bm PySem.F.plainAttrs_list PySem.F.slot_list_append PySem.F.type_list_append mt_append (pv 9) (pa_cons (pe_call G_law_pick (hr.mono (by first | decide | omega)) (by rfl) T.m_law_pick T.F_law_pick.kp T.b_law_pick .nil pass0 (pa_cons (pv 1) (pa_cons (pv 11) pa_nil))) pa_nil)))))))
    (pss_cons (ps_set (i := 6) sc_law.nd rfl (by first | exact .inl rfl | exact .inr rfl) (pe_callTy call_list_of (by rfl) T.z_list (by decide +kernel) (pa_cons (pv 9) pa_nil)))
    (pss_cutT (ps_for PassesOwn.never rfl (pi_range1 rfl T.z_range (pa_cons pe_int pa_nil)) (pg_name (i := 10) sc_law.nd rfl (by first | exact .inl rfl | exact .inr rfl))
     (pss_cons (ps_set (i := 12) sc_law.nd rfl (by first | exact .inl rfl | exact .inr rfl) (pe_call G_law_sort (hr.mono (by first | decide | omega)) (by rfl) T.m_law_sort T.F_law_sort.kp T.b_law_sort .nil pass0 (pa_cons (pv 7) (pa_cons (pv 6) pa_nil))))
     (pss_cons (ps_if (PW.pt (pw_or (pt_not (pt_val (pe_call G_law_same (hr.mono (by first | decide | omega)) (by rfl) T.m_law_same T.F_law_same.kp T.b_law_same .nil pass0 (pa_cons (pv 12) (pa_cons (pe_call G_law_sort_due (hr.mono (by first | decide | omega)) (by rfl) T.m_law_sort_due T.F_law_sort_due.kp T.b_law_sort_due .nil pass0 (pa_cons (pv 3) (pa_cons (pv 9) pa_nil))) pa_nil))))) (pw_or1 (pt_not (pt_val (pe_call G_law_same (hr.mono (by first | decide | omega)) (by rfl) T.m_law_same T.F_law_same.kp T.b_law_same .nil pass0 (pa_cons (pv 6) (pa_cons (pv 9) pa_nil))))))))
      (pss_one (ps_ret pe_bl))
      pss_nil)
     (pss_one (ps_if (pt_val (pe_callB call_isi (by rfl) T.z_isinstance (by decide +kernel) (pa_cons (pv 12) (pa_cons (pe_bltn (by rfl) T.z_list (by decide +kernel) (v := .ty "list") rfl) pa_nil))))
      (pss_one (ps_expr (pe_bm PySem.F.plainAttrs_list PySem.F.slot_list_append PySem.F.type_list_append mt_append (pv 12) (pa_cons (pv 4) pa_nil))))
      pss_nil)))))
    (pss_cutT (ps_if (pt_not (pt_val (pe_call G_law_same (hr.mono (by first | decide | omega)) (by rfl) T.m_law_same T.F_law_same.kp T.b_law_same .nil pass0 (pa_cons (pe_call G_law_sort (hr.mono (by first | decide | omega)) (by rfl) T.m_law_sort T.F_law_sort.kp T.b_law_sort .nil pass0 (pa_cons (pv 8) (pa_cons (pe_callTy call_tuple_ofF (by rfl) T.z_tuple (by decide +kernel) (pa_cons (pv 9) pa_nil)) pa_nil))) (pa_cons (pe_call G_law_sort_due (hr.mono (by first | decide | omega)) (by rfl) T.m_law_sort_due T.F_law_sort_due.kp T.b_law_sort_due .nil pass0 (pa_cons (pe_revL (pv 3)) (pa_cons (pv 9) pa_nil))) pa_nil)))))
     (pss_one (ps_ret pe_bl))
     pss_nil)
    (pss_cons (ps_set (i := 13) sc_law.nd rfl (by first | exact .inl rfl | exact .inr rfl) (pe_callTy call_list_of (by rfl) T.z_list (by decide +kernel) (pa_cons (pv 3) pa_nil)))
    (pss_cutT (ps_for PassesOwn.never rfl (pi_range1 rfl T.z_range (pa_cons (pe_op op_sub pe_int (pe_call G_law_draw (hr.mono (by first | decide | omega)) (by rfl) T.m_law_draw T.F_law_draw.kp T.b_law_draw .nil pass0 (pa_cons (pv 1) (pa_cons pe_int pa_nil)))) pa_nil)) (pg_name (i := 10) sc_law.nd rfl (by first | exact .inl rfl | exact .inr rfl))
     (pss_cons (ps_set (i := 14) sc_law.nd rfl (by first | exact .inl rfl | exact .inr rfl) (pe_call G_law_pick (hr.mono (by first | decide | omega)) (by rfl) T.m_law_pick T.F_law_pick.kp T.b_law_pick .nil pass0 (pa_cons (pv 1) (pa_cons (pv 2) pa_nil))))
     (pss_cutT (ps_if (pt_cmpR op_eqA (pe_call G_law_draw (hr.mono (by first | decide | omega)) (by rfl) T.m_law_draw T.F_law_draw.kp T.b_law_draw .nil pass0 (pa_cons (pv 1) (pa_cons pe_int pa_nil))) pe_int (nomark _))
      (pss_one (ps_set (i := 14) sc_law.nd rfl (by first | exact .inl rfl | exact .inr rfl) (pe_call G_law_bad_name (hr.mono (by first | decide | omega)) (by rfl) T.m_law_bad_name T.F_law_bad_name.kp T.b_law_bad_name .nil pass0 (pa_cons (pv 1) (pa_cons (pv 14) pa_nil)))))
      pss_nil)
     (pss_cons (ps_set (i := 15) sc_law.nd rfl (by first | exact .inl rfl | exact .inr rfl) (pe_call G_law_draw (hr.mono (by first | decide | omega)) (by rfl) T.m_law_draw T.F_law_draw.kp T.b_law_draw .nil pass0 (pa_cons (pv 1) (pa_cons (pe_op op_addA (pe_callB call_lenA (by rfl) T.z_len PySem.boot_len (pa_cons (pv 13) pa_nil)) pe_int) pa_nil))))
     (pss_one (ps_set (i := 13) sc_law.nd rfl (by first | exact .inl rfl | exact .inr rfl) (pe_op op_addA (pe_op op_addA (pe_slice sl_A (pv 13) po_none (po_some (pv 15))) (pe_lst (pa_cons (pv 14) pa_nil))) (pe_slice sl_A (pv 13) (po_some (pv 15)) po_none))))))))
    (pss_cons (ps_set (i := 16) sc_law.nd rfl (by first | exact .inl rfl | exact .inr rfl) (pe_call G_law_due (hr.mono (by first | decide | omega)) (by rfl) T.m_law_due T.F_law_due.kp T.b_law_due .nil pass0 (pa_cons (pv 13) (pa_cons (pv 2) pa_nil))))
    (pss_cutT (ps_if (PW.pt (pw_or (pt_not (pt_val (pe_call G_law_same (hr.mono (by first | decide | omega)) (by rfl) T.m_law_same T.F_law_same.kp T.b_law_same .nil pass0 (pa_cons (pe_call G_law_try (hr.mono (by first | decide | omega)) (by rfl) T.m_law_try T.F_law_try.kp T.b_law_try .nil pass0 (pa_cons (pe_callTy call_list_of (by rfl) T.z_list (by decide +kernel) (pa_cons (pv 13) pa_nil)) pa_nil)) (pa_cons (pv 16) pa_nil))))) (pw_or1 (pt_not (pt_val (pe_call G_law_same (hr.mono (by first | decide | omega)) (by rfl) T.m_law_same T.F_law_same.kp T.b_law_same .nil pass0 (pa_cons (pe_call G_law_try (hr.mono (by first | decide | omega)) (by rfl) T.m_law_try T.F_law_try.kp T.b_law_try .nil pass0 (pa_cons (pe_callTy call_tuple_ofF (by rfl) T.z_tuple (by decide +kernel) (pa_cons (pv 13) pa_nil)) pa_nil)) (pa_cons (pv 16) pa_nil))))))))
     (pss_one (ps_ret pe_bl))
     pss_nil)
    (pss_one (ps_ret (pe_and (pe_call G_law_fits (hr.mono (by first | decide | omega)) (by rfl) T.m_law_fits T.F_law_fits.kp T.b_law_fits .nil pass0 (pa_cons (pv 7) (pa_cons (pv 3) (pa_cons (pv 5) pa_nil)))) (pe_one (pe_call G_law_fits (hr.mono (by first | decide | omega)) (by rfl) T.m_law_fits T.F_law_fits.kp T.b_law_fits .nil pass0 (pa_cons (pv 8) (pa_cons (pe_revL (pv 3)) (pa_cons (pv 5) pa_nil)))))))))))))))))))))))))))), ?_⟩
  dsimp only [cxOf, Cx.nox, Cx.wish, L2.start, List.map, List.length, List.replicate, List.append]
  walk_at "rd"
  intro st H1 s1 hst
  walk_at "rd"
  intro nm H2 ns s2 nn2 hnm l8 nd vn
  have hst := hst.mono s2
  have hT := tabs_same hT (s1.trans s2)
  walk_at "rd"
  refine ⟨st, nm, _, rfl, hst, SqL.of hnm, by rw [List.length_map]; omega, fun mx ys H3 s3 nmx hmx pm => ?_⟩
  have hst := hst.mono s3
  have hnm := s3 _ _ hnm
  obtain ⟨xs, rfl⟩ := strs_back (ys := ys) fun v hv => by
    obtain ⟨x, _, rfl⟩ := List.mem_map.mp (pm.mem_iff.mp hv)
    exact ⟨x, rfl⟩
  walk_at "rd"
  intro d H4 s4 d0 d1
  have hst := hst.mono s4
  have hnm := s4 _ _ hnm
  have hmx := s4 _ _ hmx
  refine ⟨6, d, rfl, rfl, 6 - d, rfl, ?_⟩
  walk_at "rd"
  refine .inr (.inl ⟨mx, _, rfl, SqL.of hmx, fun rw0 nrw => ?_⟩)
  have hcut : cutV (xs.map V.str) none (some (6 - d)) = (xs.take (6 - d).toNat).map V.str := by rw [cutV_to (by omega), List.map_take]
  rw [hcut]
  have r1 : ∀ y ∈ xs.take (6 - d).toNat, y ∈ ns := fun y m => by
    have := pm.mem_iff.mp (List.mem_map.mpr ⟨y, List.mem_of_mem_take m, rfl⟩)
    obtain ⟨x, hx, e⟩ := List.mem_map.mp this
    exact V.str.inj e ▸ hx
  have r2 : (xs.take (6 - d).toNat).Nodup := by
    have n1 : (ns.map V.str).Nodup := List.pairwise_map.mpr (nd.imp fun h e => h (V.str.inj e))
    have n2 : (xs.map V.str).Nodup := pm.nodup_iff.mpr n1
    exact ((List.pairwise_map.mp n2).imp fun h e => h (congrArg V.str e)).sublist (List.take_sublist _ _)
  have r3 : (xs.take (6 - d).toNat).length ≤ 6 := by rw [List.length_take]; omega
  generalize xs.take (6 - d).toNat = row at r1 r2 r3 ⊢
  have s5 := same_new (o := .lst (row.map V.str)) nrw
  have hst := hst.mono s5
  have hnm := s5 _ _ hnm
  have hT := tabs_same hT ((s3.trans s4).trans s5)
  have hrw : upd H4 rw0 (.lst (row.map V.str)) rw0 = some (.lst (row.map V.str)) := upd_same
  generalize upd H4 rw0 (.lst (row.map V.str)) = H5 at hst hnm hrw hT ⊢
  clear hmx hcut pm s4 s3 s2 s1 s5 nrw nmx nn2
  obtain ⟨n0, rest, rfl⟩ : ∃ n0 rest, ns = n0 :: rest := by
    cases ns with
    | nil => cases l8
    | cons x l => exact ⟨x, l, rfl⟩
  have ix0 : atI ((n0 :: rest).map V.str) 0 = some (.str n0) := atI_nat (j := 0) rfl
  have v0 := vn n0 List.mem_cons_self
  walk_at "rd"
  intro bd H6 s6 bb bl
  have hst := hst.mono s6
  have hnm := s6 _ _ hnm
  have hrw := s6 _ _ hrw
  have hT := tabs_same hT s6
  have KN : Known (n0 :: rest) row ((n0 :: rest) ++ [bd]) bd := ⟨l8, nd, vn, r1, r2, r3, rfl, bb, bl⟩
  have R := KN.row
  have RB := KN.back
  clear ix0 v0 s6
  generalize n0 :: rest = ns at KN hnm l8 nd vn r1 ⊢
  walk_at "rd"
  intro p1 np1
  refine .inr (.inr (.inl ⟨nm, p1, _, _, rfl, rfl, by rw [upd_ne (ne_of_none hnm np1)]; exact hnm, upd_same, by rw [List.length_map, l8]; exact Nat.le_of_ble_eq_true rfl, fun zs nz => ?_⟩))
  have s7 := (same_new (o := .lst [.str bd]) np1).trans (same_new (o := .lst (ns.map V.str ++ [.str bd])) nz)
  have hzs : upd (upd H6 p1 (.lst [.str bd])) zs (.lst (ns.map V.str ++ [.str bd])) zs = some (.lst ((ns ++ [bd]).map V.str)) := by rw [upd_same, List.map_append]; rfl
  generalize upd (upd H6 p1 (.lst [.str bd])) zs (.lst (ns.map V.str ++ [.str bd])) = H7 at s7 hzs ⊢
  have hst := hst.mono s7
  have hnm := s7 _ _ hnm
  have hrw := s7 _ _ hrw
  have hT := tabs_same hT s7
  clear np1 nz s7
  walk_at "rd"
  refine ⟨rw0, _, rfl, .inl (SqL.of hrw), fun hd nhd => ?_⟩
  have hhd : upd H7 hd (.lst (row.map V.str)) hd = some (.lst (row.map V.str)) := upd_same
  have e0 : ExtN H7 (upd H7 hd (.lst (row.map V.str))) := ExtN.of (same_new nhd)
  have hT0 := tabs_new (o := .lst (row.map V.str)) hT nhd
  generalize upd H7 hd (.lst (row.map V.str)) = H8 at hhd e0 hT0 ⊢
  walk_at "rd"
  refine make_ord (Same.refl _) (.inl hhd) (fun z m => R.len m) (by omega) (fun z hz => by rw [R.noBad] at hz; cases hz) (fun _ n => (n R.nd).elim) (fun _ _ p H9 s9 np O => ?_)
  have hhd := s9 _ _ hhd
  have e0 := e0.trans (ExtN.of s9)
  have hT0 := tabs_same hT0 s9
  have sR : SqL K H9 rw0 (row.map V.str) := SqL.of (e0 _ _ hrw fun _ y => by cases y)
  walk_at "rd"
  intro q nq
  refine ⟨q, _, rfl, .inl ⟨SqL.of upd_same, fun t ot ot0 nt => ?_⟩⟩
  refine make_ord (H := H9) (xs := row.reverse) ((same_new nq).trans (same_new nt)) (.inr ⟨ot, ot0, by rw [upd_same, List.map_reverse]⟩) (fun z m => RB.len m) (by rw [List.length_reverse]; omega) (fun z hz => by rw [RB.noBad] at hz; cases hz) (fun _ n => (n RB.nd).elim) (fun _ _ b H10 s10 nb OB => ?_)
  have hhd := s10 _ _ hhd
  have e0 := e0.trans (ExtN.of s10)
  have hT0 := tabs_same hT0 s10
  have O := O.keep s10
  clear sR nq nt np nb s9 s10
  walk_at "rd"
  refine ⟨.inl ⟨rfl, _, SqL.of hhd⟩, ?_⟩
  refine ⟨hd, _, rfl, rfl, hhd, ?_⟩
  refine ⟨fun σ H' => Here (σ = [some (.ref a), some (.ref st), some (.ref nm), some (.ref rw0), some (.str bd), some (.ref zs), some (.ref hd), some (.ref p), some (.ref b), none, none, none, none, none, none, none, none] ∧
    Env K H' st nm rw0 zs p b ns row (ns ++ [bd]) ∧ Tabs (tabs Pt) H'), ?_, fun σ H' y => ?_⟩
  · walk_at "rd"
    refine ⟨.inl ⟨rfl, _, SqL.of upd_same⟩, ?_⟩
    walk_at "rd"
    refine ⟨hd, _, _, rfl, rfl, upd_same, by rw [List.length_reverse, List.length_map, sizeLine_eq]; omega, ?_⟩
    have e1 := ext_put (o := .lst ((row.map V.str).reverse ++ [V.str bd])) (ext_put (o := .lst (row.map V.str).reverse) e0 (FreN.of nhd)) (FreN.of nhd)
    exact .mk ⟨rfl, ⟨StAt.ext e1 hst, e1 _ _ hnm (fun _ y => by cases y), e1 _ _ hrw (fun _ y => by cases y), e1 _ _ hzs (fun _ y => by cases y), (O.put hhd).put upd_same, (OB.put hhd).put upd_same⟩, tabs_put (tabs_put hT0 hhd) upd_same⟩
  obtain ⟨rfl, EV, hT'⟩ := y.out
  clear O OB hhd e0 hT0 hT hst hnm hrw hzs nhd R RB
  refine ⟨fun σ H2 => Here (σ = [some (.ref a), some (.ref st), some (.ref nm), some (.ref rw0), some (.str bd), some (.ref zs), some (.ref hd), some (.ref p), some (.ref b), none, none, none, none, none, none, none, none] ∧
    Env K H2 st nm rw0 zs p b ns row (ns ++ [bd]) ∧ Tabs (tabs Pt) H2), ?_, fun σ H2 y => ?_⟩
  · walk_at "rd"
    refine ⟨p, rw0, zs, row, ns ++ [bd], rfl, EV.p, KN.row, EV.rw, EV.zs, KN.a20, KN.az, fun H2 s2 => ?_⟩
    have EV := EV.ext (ExtN.of s2)
    have hT' := tabs_same hT' s2
    have sR : SqL K H2 rw0 (row.map V.str) := SqL.of EV.rw
    walk_at "rd"
    intro q nq
    have hq : upd H2 q (.lst (row.map V.str).reverse) q = some (.lst (row.reverse.map V.str)) := by rw [upd_same, List.map_reverse]
    have s3 := same_new (o := .lst (row.map V.str).reverse) nq
    generalize upd H2 q (.lst (row.map V.str).reverse) = G at hq s3 ⊢
    have EV := EV.ext (ExtN.of s3)
    walk_at "rd"
    refine ⟨b, q, zs, row.reverse, ns ++ [bd], rfl, EV.b, KN.back, hq, EV.zs, KN.a20, KN.az, fun H4 s4 => ?_⟩
    walk_at "rd"
    exact .mk ⟨rfl, EV.ext (ExtN.of s4), tabs_same (tabs_same hT' s3) s4⟩
  obtain ⟨rfl, ES, hTS⟩ := y.out
  clear y EV hT'
  walk_at "rd"
  intro wt nwt
  refine ⟨fun σ H' => Here (∃ (ws : List Str) (o10 o11 : Option V), σ = [some (.ref a), some (.ref st), some (.ref nm), some (.ref rw0), some (.str bd), some (.ref zs), some (.ref hd), some (.ref p), some (.ref b), some (.ref wt), o10, o11, none, none, none, none, none] ∧
    ExtN H2 H' ∧ Tabs (tabs Pt) H' ∧ H' wt = some (.lst (ws.map V.str)) ∧ ws.length ≤ 6 ∧ ∀ z ∈ ws, z ∈ ns), ?_, fun σ H3 y => ?_⟩
  · have eT := tabs_new (o := .lst []) hTS nwt
    have e1 : ExtN H2 (upd H2 wt (.lst [])) := ExtN.of (same_new nwt)
    have hwt : upd H2 wt (.lst []) wt = some (.lst (([] : List Str).map V.str)) := upd_same
    generalize upd H2 wt (.lst []) = G1 at eT e1 hwt ⊢
    have hst := (ES.ext e1).st
    walk_at "rd"
    intro n H3 s3 n0 n1
    have hwt := s3 _ _ hwt
    have e1 := e1.trans (ExtN.of s3)
    have eT := tabs_same eT s3
    obtain ⟨n, rfl⟩ : ∃ m : Nat, n = 6 - (m : Int) := ⟨(6 - n).toNat, by omega⟩
    have hn : n ≤ 6 := by omega
    clear d0 d1 d s3 hst
    walk_at "rd"
    refine for_range (fun i σ H' => Here (∃ (ws : List Str) (o10 o11 : Option V), σ = [some (.ref a), some (.ref st), some (.ref nm), some (.ref rw0), some (.str bd), some (.ref zs), some (.ref hd), some (.ref p), some (.ref b), some (.ref wt), o10, o11, none, none, none, none, none] ∧
      ExtN H2 H' ∧ Tabs (tabs Pt) H' ∧ H' wt = some (.lst (ws.map V.str)) ∧ ws.length ≤ i ∧ ∀ z ∈ ws, z ∈ ns)) (.mk ⟨[], none, none, rfl, e1, eT, hwt, Nat.zero_le _, fun z m => by cases m⟩) (fun i σ H' hi y => ?_) (fun σ H' y => ?_)
    · obtain ⟨ws, o10, o11, rfl, e2, T2, hw, lw, iw⟩ := y.out
      have E2 := ES.ext e2
      have hst := E2.st
      have hrw := E2.rw
      have hnm := E2.nm
      have sR : SqL K H' rw0 (row.map V.str) := SqL.of hrw
      have hi : i < 6 := by omega
      clear y e1 eT hwt
      walk_at "rd"
      refine ⟨fun σ H3 => Here (∃ (src : Addr) (xs : List Str), σ = [some (.ref a), some (.ref st), some (.ref nm), some (.ref rw0), some (.str bd), some (.ref zs), some (.ref hd), some (.ref p), some (.ref b), some (.ref wt), some (.int (0 + (i : Nat))), some (.ref src), none, none, none, none, none] ∧
        Same H' H3 ∧ H3 src = some (.lst (xs.map V.str)) ∧ xs ≠ [] ∧ (∀ z ∈ xs, z ∈ ns) ∧ xs.length ≤ 20), ?_, fun σ H3 y => ?_⟩
      · have nsne : ns ≠ [] := fun e => by
          have := KN.l8
          rw [e] at this
          cases this
        walk_at "rd"
        refine ite2 (fun g => ?_) (fun g => ?_)
        · have ne : row ≠ [] := fun e => by
            rw [e] at g
            revert g
            decide
          walk_at "rd"
          intro d H4 s4 d0 d1
          walk_at "rd"
          refine ite2 (fun g2 => ?_) (fun g2 => ?_)
          · walk_at "rd"
            exact .mk ⟨rw0, row, rfl, s4, s4 _ _ hrw, ne, KN.r1, Nat.le_trans KN.r3 (by decide)⟩
          · exact .mk ⟨nm, ns, rfl, s4, s4 _ _ hnm, nsne, fun z m => m, by rw [KN.l8]; decide⟩
        · walk_at "rd"
          exact .mk ⟨nm, ns, rfl, Same.refl _, hnm, nsne, fun z m => m, by rw [KN.l8]; decide⟩
      · obtain ⟨src, xs, rfl, s3, hsrc, xne, xin, xl⟩ := y.out
        have hst := hst.mono s3
        have hw := s3 _ _ hw
        have xne' : xs.map V.str ≠ [] := fun e => xne (List.map_eq_nil_iff.mp e)
        have xl' : (xs.map V.str).length ≤ sizeLine := by rw [List.length_map, sizeLine_eq]; omega
        walk_at "rd"
        refine ⟨.inl ⟨rfl, _, SqL.of hw⟩, ?_⟩
        walk_at "rd"
        intro v H4 s4 mv
        obtain ⟨z, mz, rfl⟩ := List.mem_map.mp mv
        have hw := s4 _ _ hw
        refine ⟨wt, _, _, rfl, rfl, hw, by rw [List.length_map, sizeLine_eq]; omega, ?_⟩
        refine .mk ⟨ws ++ [z], _, _, rfl, ext_put (e2.trans (ExtN.of (s3.trans s4))) (FreN.of nwt), tabs_put (tabs_same T2 (s3.trans s4)) hw, by rw [upd_same, List.map_append]; rfl, by rw [List.length_append]; show _ + 1 ≤ _; omega, fun y m => ?_⟩
        rcases List.mem_append.mp m with m | m
        · exact iw y m
        · cases List.mem_singleton.mp m
          exact xin z mz
    · obtain ⟨ws, o10, o11, rfl, e2, T2, hw, lw, iw⟩ := y.out
      exact .mk ⟨ws, _, _, rfl, e2, T2, hw, by omega, iw⟩
  obtain ⟨ws, o10, o11, rfl, e2, T2, hw, lw, iw⟩ := y.out
  clear y
  have w1 : ∀ z ∈ ws, z.length ≤ 1000 := fun z m => KN.n1000 z (iw z m)
  have w2 : ∀ z ∈ ws, z.length ≤ sizeLine := fun z m => line_le (w1 z m) (by decide)
  have wl : (ws.map V.str).length ≤ sizeLine := by rw [List.length_map, sizeLine_eq]; omega
  walk_at "rd"
  refine ⟨wt, _, rfl, .inl (SqL.of hw), fun h2 nh2 => ?_⟩
  have hh2 : upd H3 h2 (.lst (ws.map V.str)) h2 = some (.lst (ws.map V.str)) := upd_same
  have s4 := same_new (o := .lst (ws.map V.str)) nh2
  have T4 := tabs_new (o := .lst (ws.map V.str)) T2 nh2
  generalize upd H3 h2 (.lst (ws.map V.str)) = S at hh2 s4 T4 ⊢
  have E4 := ES.ext (e2.trans (ExtN.of s4))
  have hw4 := s4 _ _ hw
  clear ES hTS e2 T2 hw nh2 s4 nwt
  refine ⟨fun σ H' => Here (∃ (o10 o12 : Option V), σ = [some (.ref a), some (.ref st), some (.ref nm), some (.ref rw0), some (.str bd), some (.ref zs), some (.ref h2), some (.ref p), some (.ref b), some (.ref wt), o10, o11, o12, none, none, none, none] ∧
    ExtN S H' ∧ Tabs (tabs Pt) H'), ?_, fun σ H3 y => ?_⟩
  · walk_at "rd"
    refine for_range (fun i σ H' => Here (∃ (o10 o12 : Option V), σ = [some (.ref a), some (.ref st), some (.ref nm), some (.ref rw0), some (.str bd), some (.ref zs), some (.ref h2), some (.ref p), some (.ref b), some (.ref wt), o10, o11, o12, none, none, none, none] ∧
      ExtN S H' ∧ Tabs (tabs Pt) H')) (.mk ⟨_, _, rfl, ExtN.refl _, T4⟩) (fun i σ H' hi y => ?_) (fun σ H' y => ?_)
    · obtain ⟨o10', o12, rfl, eS, TS⟩ := y.out
      clear y
      have EH := E4.ext eS
      walk_at "rd"
      refine ⟨p, h2, row, ws, rfl, EH.p, .inl (SqL.of (eS _ _ hh2 fun _ y => by cases y)), w1, by omega, TS, fun z hz q H4 s4 nq hq => ?_, fun ok D H4 e4 T4 nD => ?_⟩
      · have eS := eS.trans (ExtN.of s4)
        have EH := E4.ext eS
        walk_at "rd"
        refine ⟨rw0, wt, row, ws, rfl, EH.rw, eS _ _ hw4 (fun _ y => by cases y), Nat.le_trans KN.r3 (by decide), by omega, fun z2 hz2 q2 H5 s5 nq2 hq2 => ?_, fun ok => by rw [hz] at ok; cases ok⟩
        rw [hz] at hz2
        cases hz2
        have lz := w2 z (List.mem_of_find?_eq_some hz)
        have hq := s5 _ _ hq
        walk_at "rd"
        refine ⟨.ref q, .ref q2, _, rfl, unk_is hq lz, unk_is hq2 lz, unk_fits _, fun H6 s6 => ?_⟩
        have eS := (eS.trans (ExtN.of s5)).trans (ExtN.of s6)
        have hq := s6 _ _ hq
        walk_at "rd"
        refine ⟨.ref h2, .ref wt, .lst (ws.map TK.D.str), rfl, .lst (eS _ _ hh2 fun _ y => by cases y) wl (strs_is w2), .lst (eS _ _ hw4 fun _ y => by cases y) wl (strs_is w2), fits_strs ws false, fun H7 s7 => ?_⟩
        have hq := s7 _ _ hq
        walk_at "rd"
        refine ⟨.ref q, .ty "list", .type "tuple", .type "list", false, rfl, .ty _, .base (.tup hq), kit_ty (by decide +kernel), ?_⟩
        walk_at "rd"
        exact .mk ⟨_, _, rfl, eS.trans (ExtN.of s7), tabs_same (tabs_same (tabs_same (tabs_same TS s4) s5) s6) s7⟩
      · have fr := FreN.back (eS.trans e4) nD
        have eG := ext_put (o := .lst ((sortN row ws).map V.str)) (eS.trans e4) fr
        have TG := tabs_new (o := .lst ((sortN row ws).map V.str)) T4 nD
        have hD : upd H4 D (.lst ((sortN row ws).map V.str)) D = some (.lst ((sortN row ws).map V.str)) := upd_same
        generalize upd H4 D (.lst ((sortN row ws).map V.str)) = G at eG TG hD ⊢
        rw [sort_due KN.r2 (none_iff.mp ok)] at hD
        have bl2 : (byRank row ws).length ≤ 6 := by
          rw [← sort_due KN.r2 (none_iff.mp ok), sortN, List.length_mergeSort]
          exact lw
        have bw : ∀ z ∈ byRank row ws, z.length ≤ sizeLine := fun z m => w2 z (mem_byRank.mp m).2
        have bz : ((byRank row ws).map V.str).length ≤ sizeLine := by rw [List.length_map, sizeLine_eq]; omega
        have EG := E4.ext eG
        walk_at "rd"
        refine ⟨rw0, wt, row, ws, rfl, EG.rw, eG _ _ hw4 (fun _ y => by cases y), Nat.le_trans KN.r3 (by decide), by omega, fun z2 hz2 => (by rw [ok] at hz2; cases hz2), fun _ q2 H5 s5 nq2 hq2 => ?_⟩
        have hD := s5 _ _ hD
        walk_at "rd"
        refine ⟨.ref D, .ref q2, .lst ((byRank row ws).map TK.D.str), rfl, .lst hD bz (strs_is bw), .lst hq2 bz (strs_is bw), fits_strs _ false, fun H6 s6 => ?_⟩
        have eS := (eG.trans (ExtN.of s5)).trans (ExtN.of s6)
        have hD := s6 _ _ hD
        walk_at "rd"
        refine ⟨.ref h2, .ref wt, .lst (ws.map TK.D.str), rfl, .lst (eS _ _ hh2 fun _ y => by cases y) wl (strs_is w2), .lst (eS _ _ hw4 fun _ y => by cases y) wl (strs_is w2), fits_strs ws false, fun H7 s7 => ?_⟩
        have hD := s7 _ _ hD
        walk_at "rd"
        refine ⟨.ref D, .ty "list", .type "list", .type "list", true, rfl, .ty _, .base (.lst hD), kit_ty (by decide +kernel), ?_⟩
        walk_at "rd"
        refine ⟨.inl ⟨rfl, _, SqL.of hD⟩, ?_⟩
        walk_at "rd"
        refine ⟨D, _, _, rfl, rfl, hD, by rw [List.length_map, sizeLine_eq]; omega, ?_⟩
        exact .mk ⟨_, _, rfl, ext_put (eS.trans (ExtN.of s7)) fr, tabs_put (tabs_same (tabs_same (tabs_same TG s5) s6) s7) hD⟩
    · obtain ⟨o10', o12, rfl, eS, TS⟩ := y.out
      exact .mk ⟨_, _, rfl, eS, TS⟩
  obtain ⟨o10', o12, rfl, eS, TS⟩ := y.out
  clear y
  refine ⟨fun σ H' => Here (σ = [some (.ref a), some (.ref st), some (.ref nm), some (.ref rw0), some (.str bd), some (.ref zs), some (.ref h2), some (.ref p), some (.ref b), some (.ref wt), o10', o11, o12, none, none, none, none] ∧
    ExtN S H'), ?_, fun σ H3 y => ?_⟩
  · have EH := E4.ext eS
    have sW : SqL K H3 wt (ws.map V.str) := SqL.of (eS _ _ hw4 fun _ y => by cases y)
    walk_at "rd"
    refine ⟨wt, _, rfl, .inl ⟨sW, fun t ot ot0 nt => ?_⟩⟩
    have s3 := same_new (o := .frz ot (.tup (ws.map V.str))) nt
    have hPT : PTup (upd H3 t (.frz ot (.tup (ws.map V.str)))) t (ws.map V.str) := ⟨ot, ot0, upd_same⟩
    generalize upd H3 t (.frz ot (.tup (ws.map V.str))) = G at s3 hPT ⊢
    have eS := eS.trans (ExtN.of s3)
    have TS := tabs_same TS s3
    have EH := E4.ext eS
    have rl : row.reverse.length ≤ 20 := by rw [List.length_reverse]; exact Nat.le_trans KN.r3 (by decide)
    clear s3
    walk_at "rd"
    refine ⟨b, t, row.reverse, ws, rfl, EH.b, .inr hPT.sq, w1, by omega, TS, fun z hz q H4 s4 nq hq => ?_, fun ok D H4 e4 T4 nD => ?_⟩
    · have eS := eS.trans (ExtN.of s4)
      have sR : SqL K H4 rw0 (row.map V.str) := SqL.of (E4.ext eS).rw
      walk_at "rd"
      intro q0 nq0
      have s5 := same_new (o := .lst (row.map V.str).reverse) nq0
      have hq0 : upd H4 q0 (.lst (row.map V.str).reverse) q0 = some (.lst (row.reverse.map V.str)) := by rw [upd_same, List.map_reverse]
      generalize upd H4 q0 (.lst (row.map V.str).reverse) = G2 at s5 hq0 ⊢
      have eS := eS.trans (ExtN.of s5)
      have hq := s5 _ _ hq
      walk_at "rd"
      refine ⟨q0, wt, row.reverse, ws, rfl, hq0, eS _ _ hw4 (fun _ y => by cases y), rl, by omega, fun z2 hz2 q2 H5 s5 nq2 hq2 => ?_, fun ok => (by rw [hz] at ok; cases ok)⟩
      rw [hz] at hz2
      cases hz2
      have lz := w2 z (List.mem_of_find?_eq_some hz)
      have hq := s5 _ _ hq
      walk_at "rd"
      refine ⟨.ref q, .ref q2, _, rfl, unk_is hq lz, unk_is hq2 lz, unk_fits _, fun H6 s6 => ?_⟩
      walk_at "rd"
      exact .mk ⟨rfl, (eS.trans (ExtN.of s5)).trans (ExtN.of s6)⟩
    · have fr := FreN.back (eS.trans e4) nD
      have eG := ext_put (o := .lst ((sortN row.reverse ws).map V.str)) (eS.trans e4) fr
      have hD : upd H4 D (.lst ((sortN row.reverse ws).map V.str)) D = some (.lst ((sortN row.reverse ws).map V.str)) := upd_same
      generalize upd H4 D (.lst ((sortN row.reverse ws).map V.str)) = G3 at eG hD ⊢
      rw [sort_due KN.back.nd (none_iff.mp ok)] at hD
      have bl2 : (byRank row.reverse ws).length ≤ 6 := by
        rw [← sort_due KN.back.nd (none_iff.mp ok), sortN, List.length_mergeSort]
        exact lw
      have bw : ∀ z ∈ byRank row.reverse ws, z.length ≤ sizeLine := fun z m => w2 z (mem_byRank.mp m).2
      have bz : ((byRank row.reverse ws).map V.str).length ≤ sizeLine := by rw [List.length_map, sizeLine_eq]; omega
      have sR : SqL K G3 rw0 (row.map V.str) := SqL.of (E4.ext eG).rw
      walk_at "rd"
      intro q0 nq0
      have s5 := same_new (o := .lst (row.map V.str).reverse) nq0
      have hq0 : upd G3 q0 (.lst (row.map V.str).reverse) q0 = some (.lst (row.reverse.map V.str)) := by rw [upd_same, List.map_reverse]
      generalize upd G3 q0 (.lst (row.map V.str).reverse) = G2 at s5 hq0 ⊢
      have eG := eG.trans (ExtN.of s5)
      have hD := s5 _ _ hD
      walk_at "rd"
      refine ⟨q0, wt, row.reverse, ws, rfl, hq0, eG _ _ hw4 (fun _ y => by cases y), rl, by omega, fun z2 hz2 => (by rw [ok] at hz2; cases hz2), fun _ q2 H5 s5 nq2 hq2 => ?_⟩
      have hD := s5 _ _ hD
      walk_at "rd"
      refine ⟨.ref D, .ref q2, .lst ((byRank row.reverse ws).map TK.D.str), rfl, .lst hD bz (strs_is bw), .lst hq2 bz (strs_is bw), fits_strs _ false, fun H6 s6 => ?_⟩
      walk_at "rd"
      exact .mk ⟨rfl, (eG.trans (ExtN.of s5)).trans (ExtN.of s6)⟩
  obtain ⟨rfl, eS'⟩ := y.out
  clear y TS eS
  have E5 := E4.ext eS'
  clear E4 eS' hw4 hh2 T4
  have sR : SqL K H3 rw0 (row.map V.str) := SqL.of E5.rw
  walk_at "rd"
  refine ⟨rw0, _, rfl, .inl sR, fun lg nlg => ?_⟩
  have hlg : upd H3 lg (.lst (row.map V.str)) lg = some (.lst (row.map V.str)) := upd_same
  have E6 := E5.ext (ExtN.of (same_new (o := .lst (row.map V.str)) nlg))
  generalize upd H3 lg (.lst (row.map V.str)) = S6 at hlg E6 ⊢
  clear E5 sR nlg
  refine ⟨fun σ H' => Here (∃ (lg' : Addr) (xs : List Str) (o10 o14 o15 : Option V), σ = [some (.ref a), some (.ref st), some (.ref nm), some (.ref rw0), some (.str bd), some (.ref zs), some (.ref h2), some (.ref p), some (.ref b), some (.ref wt), o10, o11, o12, some (.ref lg'), o14, o15, none] ∧
    Same S6 H' ∧ H' lg' = some (.lst (xs.map V.str)) ∧ xs.length ≤ 8 ∧ (∀ z ∈ xs, z.length ≤ 1000) ∧ ∀ z ∈ xs, z ∈ ns ↔ isName z = true), ?_, fun σ H4 y => ?_⟩
  · have hst := E6.st
    have nin : ∀ {z : Str}, isName z = false → (z ∈ ns ↔ isName z = true) := fun {z} h => ⟨fun m => KN.vn z m, fun g => by rw [h] at g; cases g⟩
    walk_at "rd"
    intro n H4 s4 n0 n1
    obtain ⟨n, rfl⟩ : ∃ m : Nat, n = 2 - (m : Int) := ⟨(2 - n).toNat, by omega⟩
    have hn : n ≤ 2 := by omega
    have hlg := s4 _ _ hlg
    clear hst d0 d1 d
    walk_at "rd"
    refine for_range (fun i σ H' => Here (∃ (lg' : Addr) (xs : List Str) (o10 o14 o15 : Option V), σ = [some (.ref a), some (.ref st), some (.ref nm), some (.ref rw0), some (.str bd), some (.ref zs), some (.ref h2), some (.ref p), some (.ref b), some (.ref wt), o10, o11, o12, some (.ref lg'), o14, o15, none] ∧
      Same S6 H' ∧ H' lg' = some (.lst (xs.map V.str)) ∧ xs.length ≤ 6 + i ∧ (∀ z ∈ xs, z.length ≤ 1000) ∧ ∀ z ∈ xs, z ∈ ns ↔ isName z = true)) (.mk ⟨lg, row, _, none, none, rfl, s4, hlg, KN.r3, fun z m => KN.n1000 z (KN.r1 z m), fun z m => ⟨fun h => KN.vn z h, fun _ => KN.r1 z m⟩⟩) (fun i σ H' hi y => ?_) (fun σ H' y => ?_)
    · obtain ⟨lg', xs, o10'', o14, o15, rfl, s5, hx, lx, zx, ix⟩ := y.out
      have EH := E6.ext (ExtN.of s5)
      have hst := EH.st
      have hnm := EH.nm
      have hi : i < 2 := by omega
      have nm1 : ns.map V.str ≠ [] := fun e => by
        have := KN.l8
        rw [List.map_eq_nil_iff.mp e] at this
        cases this
      have nm2 : (ns.map V.str).length ≤ sizeLine := by rw [List.length_map, KN.l8]; exact Nat.le_of_ble_eq_true rfl
      clear y hlg
      walk_at "rd"
      intro v H5 s6 mv
      obtain ⟨z, mz, rfl⟩ := List.mem_map.mp mv
      have hst := hst.mono s6
      have vz := KN.vn z mz
      walk_at "rd"
      refine ⟨fun σ H' => Here (∃ z : Str, σ = [some (.ref a), some (.ref st), some (.ref nm), some (.ref rw0), some (.str bd), some (.ref zs), some (.ref h2), some (.ref p), some (.ref b), some (.ref wt), some (.int (0 + (i : Nat))), o11, o12, some (.ref lg'), some (.str z), o15, none] ∧
        Same H5 H' ∧ z.length ≤ 1000 ∧ (z ∈ ns ↔ isName z = true)), ?_, fun σ H7 y => ?_⟩
      · walk_at "rd"
        intro d H6 s7 d0 d1
        have hst := hst.mono s7
        walk_at "rd"
        refine ite2 (fun g => ?_) (fun g => ?_)
        · walk_at "rd"
          intro z2 H7 s8 nb lb
          walk_at "rd"
          exact .mk ⟨z2, rfl, s7.trans s8, lb, nin nb⟩
        · exact .mk ⟨z, rfl, s7, KN.n1000 z mz, fun h => KN.vn z h, fun _ => mz⟩
      · obtain ⟨z, rfl, s7, lz, iz⟩ := y.out
        clear y
        have hst := hst.mono s7
        have s57 := (s5.trans s6).trans s7
        have hx := s7 _ _ (s6 _ _ hx)
        have sX : SqL K H7 lg' (xs.map V.str) := SqL.of hx
        have hml : (xs.map V.str).length = xs.length := List.length_map ..
        walk_at "rd"
        intro at_ H8 s8 t0 t1
        have t1 : at_ ≤ xs.length := by rw [hml] at t1; omega
        have hx := s8 _ _ hx
        have sX : SqL K H8 lg' (xs.map V.str) := SqL.of hx
        have c1 : cutV (xs.map V.str) none (some at_) = (xs.take at_.toNat).map V.str := by rw [cutV_to t0, List.map_take]
        have c2 : cutV (xs.map V.str) (some at_) none = (xs.drop at_.toNat).map V.str := by rw [cutV_from t0, List.map_drop]
        have l1 : (xs.take at_.toNat).length ≤ xs.length := by rw [List.length_take]; omega
        have l2 : (xs.drop at_.toNat).length = xs.length - at_.toNat := List.length_drop
        have l3 : (xs.take at_.toNat).length + (xs.drop at_.toNat).length = xs.length := by rw [← List.length_append, List.take_append_drop]
        walk_at "rd"
        refine .inr (.inl ⟨lg', _, rfl, sX, fun q1 m1 => ?_⟩)
        rw [c1]
        have sa := same_new (o := .lst ((xs.take at_.toNat).map V.str)) m1
        have ha : upd H8 q1 (.lst ((xs.take at_.toNat).map V.str)) q1 = some (.lst ((xs.take at_.toNat).map V.str)) := upd_same
        generalize upd H8 q1 (.lst ((xs.take at_.toNat).map V.str)) = G1 at sa ha ⊢
        walk_at "rd"
        intro q2 m2
        have sb := same_new (o := .lst [.str z]) m2
        have hb : upd G1 q2 (.lst [.str z]) q2 = some (.lst [.str z]) := upd_same
        generalize upd G1 q2 (.lst [.str z]) = G2 at sb hb ⊢
        have ha := sb _ _ ha
        have sab := sa.trans sb
        refine .inr (.inr (.inl ⟨q1, q2, _, _, rfl, rfl, ha, hb, by rw [List.length_map, sizeLine_eq]; show _ + 1 ≤ _; omega, fun q3 m3 => ?_⟩))
        have sc := same_new (o := .lst ((xs.take at_.toNat).map V.str ++ [.str z])) m3
        have hc3 : upd G2 q3 (.lst ((xs.take at_.toNat).map V.str ++ [.str z])) q3 = some (.lst ((xs.take at_.toNat).map V.str ++ [.str z])) := upd_same
        generalize upd G2 q3 (.lst ((xs.take at_.toNat).map V.str ++ [.str z])) = G3 at sc hc3 ⊢
        have sabc := sab.trans sc
        have sX : SqL K G3 lg' (xs.map V.str) := SqL.of (sabc _ _ hx)
        clear sa sb sc sab ha hb
        walk_at "rd"
        refine .inr (.inl ⟨lg', _, rfl, sX, fun q4 m4 => ?_⟩)
        rw [c2]
        have sd := same_new (o := .lst ((xs.drop at_.toNat).map V.str)) m4
        have hd4 : upd G3 q4 (.lst ((xs.drop at_.toNat).map V.str)) q4 = some (.lst ((xs.drop at_.toNat).map V.str)) := upd_same
        generalize upd G3 q4 (.lst ((xs.drop at_.toNat).map V.str)) = G4 at sd hd4 ⊢
        have hc3 := sd _ _ hc3
        have sabcd := sabc.trans sd
        refine .inr (.inr (.inl ⟨q3, q4, _, _, rfl, rfl, hc3, hd4, by rw [List.length_append, List.length_map, List.length_map, sizeLine_eq]; show _ + 1 + _ ≤ _; omega, fun q5 m5 => ?_⟩))
        have se := same_new (o := .lst ((xs.take at_.toNat).map V.str ++ [.str z] ++ (xs.drop at_.toNat).map V.str)) m5
        have mem : ∀ y ∈ xs.take at_.toNat ++ [z] ++ xs.drop at_.toNat, y ∈ xs ∨ y = z := fun y m => by
          rcases List.mem_append.mp m with m | m
          · rcases List.mem_append.mp m with m | m
            · exact .inl (List.mem_of_mem_take m)
            · exact .inr (List.mem_singleton.mp m)
          · exact .inl (List.mem_of_mem_drop m)
        refine .mk ⟨q5, xs.take at_.toNat ++ [z] ++ xs.drop at_.toNat, _, _, _, rfl, ((s57.trans s8).trans sabcd).trans se, by rw [upd_same, List.map_append, List.map_append]; rfl, by rw [List.length_append, List.length_append, List.length_singleton]; omega, fun y m => ?_, fun y m => ?_⟩
        · rcases mem y m with h | rfl
          · exact zx y h
          · exact lz
        · rcases mem y m with h | rfl
          · exact ix y h
          · exact iz
    · obtain ⟨lg', xs, o10'', o14, o15, rfl, s5, hx, lx, zx, ix⟩ := y.out
      exact .mk ⟨lg', xs, _, _, _, rfl, s5, hx, by omega, zx, ix⟩
  obtain ⟨lg', xs, o10'', o14, o15, rfl, s5, hx, lx, zx, ix⟩ := y.out
  clear y
  have E7 := E6.ext (ExtN.of s5)
  clear E6 s5 hlg
  walk_at "rd"
  refine ⟨lg', nm, xs, ns, rfl, hx, E7.nm, by omega, by rw [KN.l8]; decide, zx, ix, fun q H5 s5 iq => ?_⟩
  have hx := s5 _ _ hx
  have E7 := E7.ext (ExtN.of s5)
  clear s5
  refine ⟨fun σ H' => Here (σ = [some (.ref a), some (.ref st), some (.ref nm), some (.ref rw0), some (.str bd), some (.ref zs), some (.ref h2), some (.ref p), some (.ref b), some (.ref wt), o10'', o11, o12, some (.ref lg'), o14, o15, some (.ref q)] ∧ Same H5 H'), ?_, fun σ H6 y => ?_⟩
  · have sX : SqL K H5 lg' (xs.map V.str) := SqL.of hx
    walk_at "rd"
    refine ⟨lg', _, rfl, .inl sX, fun l2 n2 => ?_⟩
    have s6 := same_new (o := .lst (xs.map V.str)) n2
    have hl2 : upd H5 l2 (.lst (xs.map V.str)) l2 = some (.lst (xs.map V.str)) := upd_same
    generalize upd H5 l2 (.lst (xs.map V.str)) = G1 at s6 hl2 ⊢
    walk_at "rd"
    refine ⟨l2, xs, rfl, .inl hl2, zx, by omega, fun q2 H7 s7 i2 => ?_⟩
    walk_at "rd"
    refine ⟨.ref q2, .ref q, tryD xs, rfl, i2, iq.mono (s6.trans s7), try_fits xs, fun H8 s8 => ?_⟩
    have s68 := (s6.trans s7).trans s8
    have sX : SqL K H8 lg' (xs.map V.str) := SqL.of (s68 _ _ hx)
    clear s6 s7 s8 hl2 n2 i2
    walk_at "rd"
    refine ⟨lg', _, rfl, .inl ⟨sX, fun t ot ot0 nt => ?_⟩⟩
    have s9 := same_new (o := .frz ot (.tup (xs.map V.str))) nt
    have hPT : PTup (upd H8 t (.frz ot (.tup (xs.map V.str)))) t (xs.map V.str) := ⟨ot, ot0, upd_same⟩
    generalize upd H8 t (.frz ot (.tup (xs.map V.str))) = G2 at s9 hPT ⊢
    walk_at "rd"
    refine ⟨t, xs, rfl, .inr hPT, zx, by omega, fun q3 H9 s10 i3 => ?_⟩
    walk_at "rd"
    refine ⟨.ref q3, .ref q, tryD xs, rfl, i3, iq.mono ((s68.trans s9).trans s10), try_fits xs, fun H10 s11 => ?_⟩
    walk_at "rd"
    exact .mk ⟨rfl, ((s68.trans s9).trans s10).trans s11⟩
  obtain ⟨rfl, s6⟩ := y.out
  have EV := E7.ext (ExtN.of s6)
  clear y E7 hx iq s6
  walk_at "rd"
  refine ⟨p, rw0, zs, row, ns ++ [bd], rfl, EV.p, KN.row, EV.rw, EV.zs, KN.a20, KN.az, fun H2 s2 => ?_⟩
  have EV := EV.ext (ExtN.of s2)
  have sR : SqL K H2 rw0 (row.map V.str) := SqL.of EV.rw
  walk_at "rd"
  intro q0 nq0
  have s3 := same_new (o := .lst (row.map V.str).reverse) nq0
  have hq0 : upd H2 q0 (.lst (row.map V.str).reverse) q0 = some (.lst (row.reverse.map V.str)) := by rw [upd_same, List.map_reverse]
  generalize upd H2 q0 (.lst (row.map V.str).reverse) = G at s3 hq0 ⊢
  have EV := EV.ext (ExtN.of s3)
  walk_at "rd"
  refine ⟨b, q0, zs, row.reverse, ns ++ [bd], rfl, EV.b, KN.back, hq0, EV.zs, KN.a20, KN.az, fun H4 s4 => ?_⟩
  exact k _
end
end K24
namespace K24
open PySem PySem.Spec PyProof.Rows L2 TK
abbrev RowO : PySem.W.OpenRow := PySem.W.OpenLaw.row PySem.Challenge.rw_takenorelse_k24_order_of_names
abbrev hk : PySem.W.Hook := hookT 6 fa fn ex fi at_KeyOrderU_callU
def ob (s : PySem.W.SharedT) : AlT := obsT 6 fa fn ex fi at_KeyOrderU_callU (HandSHeadRun.getT s)
theorem ob_eq (s : PySem.W.SharedT) : ob s = hk.obs s.abs := obsT_eq (HandSHeadRun.getT_eq s)
def loose : List PySem.Str := (["ElseputError", "BadName", "UnknownName", "UnknownKey", "UnknownField", "UnknownShape", "BadOrder", "LETTERS", "RESERVED", "NAME_LENGTH", "is_name", "check_name", "KeyOrder", "_law_state", "_law_draw", "_law_pick", "_law_mixed", "_law_names", "_law_is_int", "_law_same", "_law_bad_name", "_law_try", "_law_due", "_law_rank", "_law_sort", "_law_sort_due", "_law_fits"] : List PySem.Str)
theorem run (w : World) : HandSHeadRun.RunEq RowO (PySem.W.view RowO.prog [31]) hk ob 100000 loose w := by
  intro os
  kernel_rfl
end K24
open PySem PySem.W PySem.Calls PyProof.Rows
set_option maxRecDepth 100000 in
set_option maxHeartbeats 0 in
theorem PySem.Challenge.cw_takenorelse_k24_order_of_names_holds : PySem.Challenge.rw_takenorelse_k24_order_of_names.Holds := by
  w_on; o_law
  refine HandSHeadRun.head_any (r := OpenLaw.row PySem.Challenge.rw_takenorelse_k24_order_of_names) (q := view (OpenLaw.row PySem.Challenge.rw_takenorelse_k24_order_of_names).prog [31]) (H := K24.hk) (ob := K24.ob) (M := 100000) (loose := K24.loose) (d := HandSHeadRun.topDef (OpenLaw.row PySem.Challenge.rw_takenorelse_k24_order_of_names).prog 31) (kwd := []) K24.ob_eq
    (by kernel_rfl) (fun s => by kernel_rfl) K24.run (by kernel_rfl) (by kernel_rfl) (by kernel_rfl) (by rfl) (by first | assumption | decide +kernel) (by decide +kernel) ⟨rfl, rfl, rfl, rfl, rfl, by decide +kernel⟩ ?hw ?hc
  case hw => w_witness2
  case hc =>
    exact TK.row_byT (l := PySem.Challenge.rw_takenorelse_k24_order_of_names) (k := 10) (sp := K24.sp_law) (f := fun K => He.fAd K K24.at_law) (fd := fun K => TK.fdOf K K24.at_law) rfl (by kernel_rfl) ⟨rfl, by decide, by decide⟩ (by kernel_rfl)
      (fun K mg T => K24.Tx.m_law T) (fun K mg T s u => (L2.FunD.bindsA (ps := ["script"]) (K24.Tx.F_law T) (fun _ _ _ _ _ _ us hl => match us, hl with | [_], _ => rfl)) s [u] rfl)
      (fun K P H a ns hl hP hS => K24.law_pre K P H a ns hl hP hS) (fun w K mg base c P T hc TB => K24.ok_law T hc TB)
#print axioms PySem.Challenge.cw_takenorelse_k24_order_of_names_holds
