import PyProof.Rows.All
import Wide.All
import OpenK.AllK
import Wide.FinOn
import KE.KStateDown
import Lean
import HandS.ForMost
import HandS.Style
import HandS.IsInst
import HandS.Wide
import HandS.Defaults
import HandS.WordsExc
import HandS.Head0
import HandS.Head1
import HandS.Head2
import HandS.HeadEnd
import HandS.HeadHook1
import HandS.HeadHook2
import PyProof.StrOps2
import HandS.Nested
import HandS.ExcInit
import HandS.ExcField
import HandS.ExcIs
import HandS.ExcOwn
import HandS.TryMany
import HandS.SuiteRaise
import KE.KExcSuper
import KE.KSuper
import KE.KOpsOwn
import HandS.IterVal
import HandS.Star
import KE.GoesMore
import HandS.Strs
import KE.KOwnIter
import KE.KCallOwn
import HandS.ClsMeth
import HandS.Property
import HandS.DictComp
import HandS.Dict
import HandS.Small
import HandS.HeadNt
import OpenK.KDescr
import HandS.WordsDict
import HandS.Iter
import PySem.Challenge.RW_takenorelse_k13_change_many_times
set_option Elab.async false
set_option linter.all false
set_option maxRecDepth 100000
set_option maxHeartbeats 4000000
/-! Own toolkit, part a: rules for operators whatever the kind of their operands; a list of a promise seen from outside as one thing that does not change. -/
namespace TK
open PySem PySem.Spec PyProof.Rows L2
section ops
variable {X : Cx}
/-- x is True, x is False, whatever x is -/
def rIsA : R2 := fun x y H Q => ∃ b, y = .bl b ∧ Q (.bl (decide (x = .bl b))) H
def rIsnotA : R2 := fun x y H Q => ∃ b, y = .bl b ∧ Q (.bl (!decide (x = .bl b))) H
theorem RelV.bool_iff {x : V} {v : Value} {b : Bool} (r : RelV x v) : (v == Value.bool b) = decide (x = .bl b) ∧ plainIs v (.bool b) = true := by
  cases x with
  | non => cases r; exact ⟨rfl, rfl⟩
  | bl c => cases r; exact ⟨by cases c <;> cases b <;> rfl, rfl⟩
  | int _ => obtain ⟨t, rfl⟩ := r; exact ⟨rfl, rfl⟩
  | str _ => obtain ⟨t, rfl⟩ := r; exact ⟨rfl, rfl⟩
  | byt _ => obtain ⟨t, rfl⟩ := r; exact ⟨rfl, rfl⟩
  | flt _ => obtain ⟨t, rfl⟩ := r; exact ⟨rfl, rfl⟩
  | ref _ => cases r; exact ⟨rfl, rfl⟩
  | ty _ => cases r; exact ⟨rfl, rfl⟩
theorem op_isA : OpR X (compareOp .Is) rIsA := by
  intro pins s σ H x y v u Q I rx ry h
  obtain ⟨b, rfl, q⟩ := h
  cases (show u = Value.bool b from ry)
  obtain ⟨e1, e2⟩ := RelV.bool_iff (b := b) rx
  exact wpAny_is_plain e2 ⟨.bl _, H, I, by rw [e1]; rfl, q⟩
theorem op_isnotA : OpR X (compareOp .IsNot) rIsnotA := by
  intro pins s σ H x y v u Q I rx ry h
  obtain ⟨b, rfl, q⟩ := h
  cases (show u = Value.bool b from ry)
  obtain ⟨e1, e2⟩ := RelV.bool_iff (b := b) rx
  exact wpAny_isNot_plain e2 ⟨.bl _, H, I, by rw [e1]; rfl, q⟩
abbrev rAddI : R2 := rI0 fun i j => .int (i + j)
def rAddS : R2 := fun x y H Q => ∃ i j, x = .str i ∧ y = .str j ∧ i.length + j.length ≤ sizeLine ∧ Q (.str (i ++ j)) H
/-- + of ints, texts, lists, tuples -/
abbrev rAddA (K : PySem.W.Frag) : R2 := fun x y H Q => rAddI x y H Q ∨ rAddS x y H Q ∨ rCat x y H Q ∨ rCatT K x y H Q
theorem op_addA : OpR X (binaryOp .Add) (rAddA X.K) := op_add.or ((op_add_str : OpR X (binaryOp .Add) rAddS).or (op_cat.or op_catT))
abbrev rMulA : R2 := rI CMul fun i j => .int (i * j)
theorem op_mulA : OpR X (binaryOp .Mult) rMulA := op_mul
abbrev rIxA (K : PySem.W.Frag) : R2 := rIx K
theorem ix_A : IxR X (rIxA X.K) := ix_seq
theorem SlR.or {r r' : V → Option Int → Option Int → Hp → VK → Prop} (h : SlR X r) (h' : SlR X r') : SlR X (fun x l u H Q => r x l u H Q ∨ r' x l u H Q) := by
  intro pins s σ H x v vl vu lo hi sl Q I rx hs pl pu q
  rcases q with q | q
  · exact h pins s σ H x v vl vu lo hi sl Q I rx hs pl pu q
  · exact h' pins s σ H x v vl vu lo hi sl Q I rx hs pl pu q
/-- x[a:b] of a text, a list, a tuple -/
theorem sl_A : SlR X (fun x l u H Q => rSlS x l u H Q ∨ rSlL X.K x l u H Q ∨ rSlT X.K x l u H Q) := SlR.or sl_str (SlR.or sl_list sl_tup)
theorem CallR.or {f : Value} {r r' : List V → Hp → VK → Prop} (h : CallR X f r) (h' : CallR X f r') : CallR X f (fun xs H Q => r xs H Q ∨ r' xs H Q) := by
  intro pins s σ H vs us Q I r1 q
  rcases q with q | q
  · exact h pins s σ H vs us Q I r1 q
  · exact h' pins s σ H vs us Q I r1 q
def rLenS : List V → Hp → VK → Prop := fun xs H Q => ∃ z, xs = [.str z] ∧ z.length ≤ sizeLine ∧ Q (.int z.length) H
def rLenL (K : PySem.W.Frag) : List V → Hp → VK → Prop := fun xs H Q => ∃ p ys, xs = [.ref p] ∧ (SqL K H p ys ∨ SqT K H p ys) ∧ Q (.int ys.length) H
theorem call_lenA : CallR X (.builtin "len") (fun xs H Q => rLenS xs H Q ∨ rLenL X.K xs H Q) := CallR.or (r := rLenS) (r' := rLenL X.K) call_len_str call_len_seq
def rInSign : R2 := fun x y H Q => ∃ (c : Nat) (z : Str), x = .str ⟨#[c]⟩ ∧ y = .str z ∧ Q (.bl (decide (c ∈ z.cps.toList))) H
def rNinSign : R2 := fun x y H Q => ∃ (c : Nat) (z : Str), x = .str ⟨#[c]⟩ ∧ y = .str z ∧ Q (.bl (!decide (c ∈ z.cps.toList))) H
def rInQ (K : PySem.W.Frag) : R2 := fun x y H Q => ∃ p xs, y = .ref p ∧ (SqL K H p xs ∨ SqT K H p xs) ∧ flatV x = true ∧ xs.all flatV = true ∧ Q (.bl (inV x xs)) H
def rNinQ (K : PySem.W.Frag) : R2 := fun x y H Q => ∃ p xs, y = .ref p ∧ (SqL K H p xs ∨ SqT K H p xs) ∧ flatV x = true ∧ xs.all flatV = true ∧ Q (.bl (!inV x xs)) H
theorem op_inQ : OpR X (compareOp .In) (rInQ X.K) := op_in_seq
theorem op_ninQ : OpR X (compareOp .NotIn) (rNinQ X.K) := op_notIn_seq
/-- x in y: a sign in a text; a flat thing in a list or a tuple -/
theorem op_inA : OpR X (compareOp .In) (fun x y H Q => rInSign x y H Q ∨ rInQ X.K x y H Q) := OpR.or (r := rInSign) op_in_sign op_inQ
theorem op_ninA : OpR X (compareOp .NotIn) (fun x y H Q => rNinSign x y H Q ∨ rNinQ X.K x y H Q) := OpR.or (r := rNinSign) op_notIn_sign op_ninQ
end ops
/-! ### a list that its users see as one thing -/
/-- at st stands a list whose items are so -/
def lsat (S : List V → Prop) (st : Addr) : Heap → Prop := fun h => ∃ xs, S xs ∧ xs.length ≤ sizeLine ∧ ∃ (its : List Value) (n : Nat), Vals xs its ∧ h.get? st = some { cls := .type "list", data := .seq its.toArray n }
section view
variable {P : Program} {w : World} {K : PySem.W.Frag} {mg : Str → Option Value} {base : Heap} {H H' : Hp} {h h' : Heap} {st : Addr} {S : List V → Prop} {xs : List V} {u : HO}
theorem hok_swap {o : HO} (x : HOk P w H h) (hs : H st = some u) (hu : ∀ y, u ≠ .own y) (ht : ∀ y, u ≠ .tup y) (new : ObjOk P w (upd H st o) h st o) : HOk P w (upd H st o) h := fun b v e => by
  by_cases hb : b = st
  · subst hb; rw [upd_same] at e; cases e; exact new
  · rw [upd_ne hb] at e
    refine (x b v e).stay (fun c v _ q => q) (fun c q => ?_) fun c ys q => ?_
    · have : c ≠ st := fun z => by subst z; rw [hs] at q; cases q; exact hu _ rfl
      rw [upd_ne this]; exact q
    · have : c ≠ st := fun z => by subst z; rw [hs] at q; cases q; exact ht _ rfl
      rw [upd_ne this]; exact q
theorem open_lsat (x : HOk P w H h) (hs : H st = some (.ext (lsat S st))) : ∃ xs, S xs ∧ HOk P w (upd H st (.lst xs)) h := by
  obtain ⟨⟨xs, s1, z, its, n, r, e⟩, _, _⟩ := x st _ hs
  exact ⟨xs, s1, hok_swap x hs (fun _ => nofun) (fun _ => nofun) ⟨z, its, n, r, e⟩⟩
theorem shut_lsat (x : HOk P w H h) (hs : H st = some (.lst xs)) (sx : S xs) : HOk P w (upd H st (.ext (lsat S st))) h := by
  obtain ⟨z, its, n, r, e⟩ := x st _ hs
  refine hok_swap x hs (fun _ => nofun) (fun _ => nofun) ⟨⟨xs, sx, z, its, n, r, e⟩, ⟨_, e⟩, fun h1 h2 q k => ?_⟩
  obtain ⟨xs, sx, z, its, n, r, e⟩ := q
  exact ⟨xs, sx, z, its, n, r, k _ e⟩
theorem un_open {fs ex : List Addr} {o : HO} (x : Un fs ex (upd H st o) H' h h') (hs : H st = some u) (ht : ∀ y, u ≠ .tup y) (hf : ∀ a b, u ≠ .frz a b) (hl : ∀ a, u ≠ .tbl a) : Un fs ex H H' h h' := by
  have ne : ∀ b, H b = none → (upd H st o) b = none := fun b e => by
    have : b ≠ st := fun z => by subst z; rw [hs] at e; cases e
    rw [upd_ne this]; exact e
  refine ⟨fun b ob q n => x.keep b ob q (ne b n), fun b ob q n => x.slot b ob q (ne b n), fun b ob q n => x.free b ob q (ne b n), x.there, fun b ys q => ?_, fun b o v q => ?_, fun b ps q => ?_⟩
  · have : b ≠ st := fun z => by subst z; rw [hs] at q; cases q; exact ht _ rfl
    exact x.tups b ys (by rw [upd_ne this]; exact q)
  · have : b ≠ st := fun z => by subst z; rw [hs] at q; cases q; exact hf _ _ rfl
    exact x.frzs b o v (by rw [upd_ne this]; exact q)
  · have : b ≠ st := fun z => by subst z; rw [hs] at q; cases q; exact hl _ rfl
    exact x.tbls b ps (by rw [upd_ne this]; exact q)
theorem un_shut {fs ex : List Addr} {o : HO} (x : Un fs ex H H' h h') (hs : H' st = some u) (ht : ∀ y, u ≠ .tup y) (hf : ∀ a b, u ≠ .frz a b) (hl : ∀ a, u ≠ .tbl a) : Un fs ex H (upd H' st o) h h' := by
  refine ⟨x.keep, x.slot, fun b ob q n hx => ?_, x.there, fun b ys q => ?_, fun b o v q => ?_, fun b ps q => ?_⟩
  · have e := x.free b ob q n hx
    have : b ≠ st := fun z => by subst z; rw [hs] at e; cases e
    rw [upd_ne this]; exact e
  · have e := x.tups b ys q
    have : b ≠ st := fun z => by subst z; rw [hs] at e; cases e; exact ht _ rfl
    rw [upd_ne this]; exact e
  · have e := x.frzs b o v q
    have : b ≠ st := fun z => by subst z; rw [hs] at e; cases e; exact hf _ _ rfl
    rw [upd_ne this]; exact e
  · obtain ⟨m, e⟩ := x.tbls b ps q
    have : b ≠ st := fun z => by subst z; rw [hs] at e; cases e; exact hl _ rfl
    exact ⟨m, by rw [upd_ne this]; exact e⟩
variable {k : Nat} {f : Addr} {fd : FuncData} {ps : List Str} {sp sp' : Sp}
/-- a def that works on the list at st, told to those who see it as one thing -/
theorem fn_view (F : FnOk P w K mg base CX0 k f fd ps sp) (hl : ∀ vs H Q E, sp' vs H Q E → vs.length = ps.length)
    (hv : ∀ vs H Q E, sp' vs H Q E → ∃ st S, H st = some (.ext (lsat S st)) ∧ ∀ xs, S xs → sp vs (upd H st (.lst xs)) (fun v H' => ∃ xs', S xs' ∧ H' st = some (.lst xs') ∧ Q v (upd H' st (.ext (lsat S st)))) E) :
    FnOk P w K mg base CX0 k f fd ps sp' := by
  refine ⟨hl, fun A outer s H args us vs Q E hr e0 hb rv hsp => ?_⟩
  obtain ⟨st, S, hs, hS⟩ := hv vs H Q E hsp
  obtain ⟨xs, sx, hok⟩ := open_lsat e0.hok hs
  have ne : ∀ b o, H b = none → (upd H st o) b = none := fun b o e => by
    have : b ≠ st := fun z => by subst z; rw [hs] at e; cases e
    rw [upd_ne this]; exact e
  have e1 : Env0 P w K mg base A outer s (upd H st (.lst xs)) := ⟨e0.frames, e0.mod, fun b o e => ⟨(e0.bs b o e).1, ne b _ (e0.bs b o e).2⟩, e0.bsz, e0.funs, fun b hb => ne b _ (e0.frf b hb), hok, e0.bare⟩
  refine codeAny_mono (F.run A outer s _ args us vs _ E hr e1 hb rv (hS xs sx)) fun r s' h => ?_
  cases r with
  | error e => exact h
  | ok fl =>
    cases fl with
    | ret v =>
      obtain ⟨v, H', os, bare, un, hok', r', xs', sx', hs', q⟩ := h
      exact ⟨v, _, os, bare, un_shut (un_open un hs (fun _ => nofun) (fun _ _ => nofun) (fun _ => nofun)) hs' (fun _ => nofun) (fun _ _ => nofun) (fun _ => nofun), shut_lsat hok' hs' sx', r', q⟩
    | next => exact h
    | brk => exact h
    | cont => exact h
/-- a def that makes the list -/
theorem fn_seal (F : FnOk P w K mg base CX0 k f fd ps sp) (hl : ∀ vs H Q E, sp' vs H Q E → vs.length = ps.length)
    (hv : ∀ vs H Q E, sp' vs H Q E → sp vs H (fun v H' => ∃ st S xs', S xs' ∧ H' st = some (.lst xs') ∧ Q v (upd H' st (.ext (lsat S st)))) E) :
    FnOk P w K mg base CX0 k f fd ps sp' := by
  refine ⟨hl, fun A outer s H args us vs Q E hr e0 hb rv hsp => ?_⟩
  refine codeAny_mono (F.run A outer s _ args us vs _ E hr e0 hb rv (hv vs H Q E hsp)) fun r s' h => ?_
  cases r with
  | error e => exact h
  | ok fl =>
    cases fl with
    | ret v =>
      obtain ⟨v, H', os, bare, un, hok', r', st, S, xs', sx', hs', q⟩ := h
      exact ⟨v, _, os, bare, un_shut un hs' (fun _ => nofun) (fun _ _ => nofun) (fun _ => nofun), shut_lsat hok' hs' sx', r', q⟩
    | next => exact h
    | brk => exact h
    | cont => exact h
end view
end TK
namespace TK
open PySem PySem.Spec PyProof.Rows L2
section
variable {X : Cx}
theorem op_ltA : OpR X (compareOp .Lt) (rI0 fun i j => .bl (decide (i < j))) := op_lt
theorem op_eqA : OpR X (compareOp .Eq) rEq := op_eq
theorem op_neA : OpR X (compareOp .NotEq) rNe := op_ne
theorem set_A : PSet X rSetL := set_list
end
/-! ### the law's own draws -/
/-- what a draw may be below -/
theorem big_ex : ∃ b : Int, ((2 : Int) ^ 63 < b ∧ (10 : Int) ^ 40 < b) ∧ b ≤ 2 ^ 8000 := ⟨2 ^ 8000, by decide +kernel, by decide +kernel⟩
noncomputable def BIG : Int := Classical.choose big_ex
theorem lt_big {i : Int} (h : i < 2 ^ 63) : i < BIG := by
  have : (2 : Int) ^ 63 < BIG := (Classical.choose_spec big_ex).1.1
  omega
theorem lt_big40 {i : Int} (h : i < 10 ^ 40) : i < BIG := Int.lt_trans h (Classical.choose_spec big_ex).1.2
theorem line_big {n : Nat} (h : n ≤ sizeLine) : (n : Int) < BIG := lt_big (by rw [sizeLine_eq] at h; omega)
/-- the items of the list of draws: the script's copy at q, the place, the number, the mode, the count -/
def StS (q : Addr) (n : Nat) (xs : List V) : Prop := ∃ i v m c : Int, xs = [.ref q, .int i, .int v, .int m, .int c] ∧ 0 ≤ i ∧ i ≤ (n : Int)
/-- the list of draws stands at st -/
def StAt (H : Hp) (st : Addr) : Prop := ∃ (q : Addr) (ns : List Int), ns.length ≤ 63 ∧ H q = some (.lst (ns.map V.int)) ∧ H st = some (.ext (lsat (StS q ns.length) st))
theorem StAt.mono {H H' : Hp} {st : Addr} (s : Same H H') (h : StAt H st) : StAt H' st := by
  obtain ⟨q, ns, z, h1, h2⟩ := h
  exact ⟨q, ns, z, s _ _ h1, s _ _ h2⟩
/-- what a draw does to the list itself -/
def sp_draw0 : Sp := fun vs H Q _ => ∃ (st q : Addr) (ns : List Int) (xs : List V) (many : Int), vs = [.ref st, .int many] ∧ ns.length ≤ 63 ∧ H q = some (.lst (ns.map V.int)) ∧ H st = some (.lst xs) ∧ StS q ns.length xs ∧ 0 < many ∧ many < BIG ∧
  ∀ (d : Int) (xs' : List V) (H' : Hp), H' st = some (.lst xs') → StS q ns.length xs' → (∀ b o, b ≠ st → H b = some o → H' b = some o) → 0 ≤ d → d < many → Q (.int d) H'
/-- a draw, as its users see it: some number from 0 to below many -/
def sp_draw : Sp := fun vs H Q _ => ∃ (st : Addr) (many : Int), vs = [.ref st, .int many] ∧ StAt H st ∧ 0 < many ∧ many < BIG ∧ ∀ (d : Int) (H' : Hp), Same H H' → 0 ≤ d → d < many → Q (.int d) H'
theorem draw_view {P : Program} {w : World} {K : PySem.W.Frag} {mg : Str → Option Value} {base : Heap} {k : Nat} {f : Addr} {fd : FuncData} (F : FnOk P w K mg base CX0 k f fd ["state", "many"] sp_draw0) : FnOk P w K mg base CX0 k f fd ["state", "many"] sp_draw := by
  refine fn_view F (fun vs H Q E h => ?_) fun vs H Q E h => ?_
  · obtain ⟨_, _, rfl, _⟩ := h; rfl
  · obtain ⟨st, many, rfl, ⟨q, ns, z, h1, h2⟩, m0, m1, k⟩ := h
    have nq : q ≠ st := ne_of h1 h2 nofun
    refine ⟨st, _, h2, fun xs sx => ⟨st, q, ns, xs, many, rfl, z, by rw [upd_ne nq]; exact h1, upd_same, sx, m0, m1, fun d xs' H' e1 e2 kp d0 d1 => ⟨xs', e2, e1, k d _ (fun b o e => ?_) d0 d1⟩⟩⟩
    by_cases hb : b = st
    · subst hb; rw [h2] at e; cases e; exact upd_same
    · rw [upd_ne hb]; exact kp b o hb (by rw [upd_ne hb]; exact e)
/-- state = [list(script), 0, 0, 0, 0] -/
def sp_state (K : PySem.W.Frag) : Sp := fun vs H Q _ => ∃ (a : Addr) (ns : List Int), vs = [.ref a] ∧ SqL K H a (ns.map V.int) ∧ ns.length ≤ 63 ∧ ∀ (st : Addr) (H' : Hp), Same H H' → StAt H' st → Q (.ref st) H'
def sp_state0 (K : PySem.W.Frag) : Sp := fun vs H Q _ => ∃ (a : Addr) (ns : List Int), vs = [.ref a] ∧ SqL K H a (ns.map V.int) ∧ ns.length ≤ 63 ∧
  ∀ (q st : Addr) (H' : Hp), Same H H' → H st = none → H' q = some (.lst (ns.map V.int)) → H' st = some (.lst [.ref q, .int 0, .int 0, .int 0, .int 0]) → Q (.ref st) H'
theorem state_seal {P : Program} {w : World} {K : PySem.W.Frag} {mg : Str → Option Value} {base : Heap} {k : Nat} {f : Addr} {fd : FuncData} (F : FnOk P w K mg base CX0 k f fd ["script"] (sp_state0 K)) : FnOk P w K mg base CX0 k f fd ["script"] (sp_state K) := by
  refine fn_seal F (fun vs H Q E h => ?_) fun vs H Q E h => ?_
  · obtain ⟨_, _, rfl, _⟩ := h; rfl
  · obtain ⟨a, ns, rfl, hS, z, k⟩ := h
    refine ⟨a, ns, rfl, hS, z, fun q st H' sm n0 e1 e2 => ⟨st, StS q ns.length, _, ⟨0, 0, 0, 0, rfl, Int.le_refl _, by omega⟩, e2, k st _ (fun b o e => ?_) ⟨q, ns, z, ?_, upd_same⟩⟩⟩
    · have : b ≠ st := fun z => by subst z; rw [n0] at e; cases e
      rw [upd_ne this]; exact sm _ _ e
    · have : q ≠ st := ne_of e1 e2 (by
        intro z
        have z1 : ns.map V.int = [.ref q, .int 0, .int 0, .int 0, .int 0] := by injection z
        cases ns with
        | nil => cases z1
        | cons n r => cases z1)
      rw [upd_ne this]; exact e1
theorem same_new {H : Hp} {p : Addr} {o : HO} (h : H p = none) : Same H (upd H p o) := fun b u q => by rw [upd_ne (ne_of_none q h)]; exact q
end TK
namespace TK
open PySem PySem.Spec PyProof.Rows L2
/-- a statement, then the rest, with a word of one's own between them -/
def tCutT (t u : TS) : TS := fun D σ H => ∃ Mid : L2.St → Hp → Prop, t { D with nx := Mid } σ H ∧ ∀ σ' H', Mid σ' H' → u D σ' H'
theorem pss_cutT {X : Cx} {st : Stmt} {rest : List Stmt} {t u : TS} (h1 : PS X st t) (h2 : PSs X rest u) : PSs X (st :: rest) (tCutT t u) := by
  refine ⟨fun pins s σ H D I h => ?_⟩
  obtain ⟨Mid, hm, hu⟩ := h
  refine wpAny_execs_cons (thn (h1.run pins s σ H { D with nx := Mid } I hm) fun f s1 q => ?_)
  cases f with
  | next =>
    obtain ⟨σ', H', I', q⟩ := q
    exact h2.run pins s1 σ' H' D I' (hu σ' H' q)
  | ret v => exact q
  | brk => exact q
  | cont => exact q
end TK
namespace TK
open PySem PySem.Spec PyProof.Rows L2
theorem cdiv_of {i j : Int} (h0 : 0 < j) (h1 : j < BIG) : CDivW i j := by
  have h2 : BIG ≤ 2 ^ 8000 := (Classical.choose_spec big_ex).2
  exact wide_div (b := 8000) h0 (by omega) (by decide) (by decide)
theorem cdiv_small {i j : Int} (h0 : 0 < j) (h1 : j < 2 ^ 63) : CDivW i j := cdiv_of h0 (lt_big h1)
end TK
namespace TK
open PySem PySem.Spec PyProof.Rows L2
theorem at_ints {ns : List Int} {i : Int} (h0 : 0 ≤ i) (h1 : i < (ns.length : Int)) : atI (ns.map V.int) i = some (.int (ns[i.toNat]'(by omega))) := by
  have e : i = ((i.toNat : Nat) : Int) := by omega
  have q : atI (ns.map V.int) ((i.toNat : Nat) : Int) = some (.int (ns[i.toNat]'(by omega))) := atI_nat (by rw [List.getElem?_map, List.getElem?_eq_getElem (show i.toNat < ns.length by omega)]; rfl)
  rw [← e] at q
  exact q
theorem emod_lt' {a b : Int} (h : 0 < b) : a % b < b := Int.emod_lt_of_pos a h
theorem emod_ge' {a b : Int} (h : 0 < b) : 0 ≤ a % b := Int.emod_nonneg a (by omega)
end TK
namespace TK
/-- a word at which the tactics stop -/
inductive Here (p : Prop) : Prop
  | mk (h : p)
  | no (h : False)
theorem Here.out {p : Prop} (h : Here p) : p := by
  cases h with
  | mk h => exact h
  | no h => exact h.elim
end TK
namespace TK
open PySem PySem.Spec PyProof.Rows L2
/-- kinds of things, and for lists their lengths -/
def htag : HO → Nat
  | .lst [] => 0
  | .lst [_] => 1
  | .lst (_ :: _ :: _) => 2
  | .tup _ => 3
  | .dK _ => 4
  | .ext _ => 5
  | .xd _ => 6
  | .ins _ _ _ => 7
  | .own _ => 8
  | .rng _ _ => 9
  | _ => 10
theorem ne_tag {H : Hp} {a b : Addr} {o u : HO} (h1 : H a = some o) (h2 : H b = some u) (h : (htag o == htag u) = false) : a ≠ b := ne_of h1 h2 fun e => by
  rw [e] at h
  simp at h
end TK
/-! Own toolkit, part b: texts, loops over them, small lists of texts. -/
namespace TK
open PySem PySem.Spec PyProof.Rows L2
/-! ### texts -/
theorem cps_app (x y : Str) : (x ++ y).cps.toList = x.cps.toList ++ y.cps.toList := by
  rw [PySem.Str.cps_append] <;> simp
theorem len_cps (x : Str) : x.length = x.cps.toList.length := by simp [Str.length]
theorem str_ext {x y : Str} (h : x.cps.toList = y.cps.toList) : x = y := by
  obtain ⟨a⟩ := x
  obtain ⟨b⟩ := y
  have e : a = b := by simpa using h
  rw [e]
theorem len_app (x y : Str) : (x ++ y).length = x.length + y.length := by
  rw [len_cps, cps_app, List.length_append, ← len_cps, ← len_cps]
theorem len_sign (c : Nat) : (⟨#[c]⟩ : Str).length = 1 := rfl
theorem inV_strs (x : Str) : ∀ ws : List Str, inV (.str x) (ws.map V.str) = decide (x ∈ ws)
  | [] => rfl
  | w :: ws => by
    have ih := inV_strs x ws
    unfold inV at ih ⊢
    rw [List.map_cons, List.any_cons, ih]
    show ((w == x) || decide (x ∈ ws)) = decide (x ∈ w :: ws)
    by_cases e : w = x
    · subst e; simp
    · simp [e, Ne.symm e]
theorem all_flat (ws : List Str) : (ws.map V.str).all flatV = true := by
  rw [List.all_eq_true]
  intro v hv
  obtain ⟨w, _, rfl⟩ := List.mem_map.mp hv
  rfl
/-- over the signs of a text -/
theorem for_str {x : Str} {g : TG} {tb : TS} {D : Ends} {σ : L2.St} {H : Hp} (Pv : Nat → L2.St → Hp → Prop) (h0 : Pv 0 σ H)
    (hs : ∀ i c σ H, x.cps[i]? = some c → Pv i σ H → g (.str ⟨#[c]⟩) σ H fun σ2 H2 => tb { D with nx := Pv (i + 1), ct := Pv (i + 1), bk := D.nx } σ2 H2) (hd : ∀ σ H, Pv x.cps.size σ H → D.nx σ H) :
    ∃ W : Nat → Nat → L2.St → Hp → Prop, (∃ m, W 0 m σ H) ∧ ∀ i m σ H, W i m σ H →
      ((Its x).stop i H ∧ D.nx σ H) ∨ ((Its x).go i H ∧ ∃ N : L2.St → Hp → Prop, (∀ σ' H', N σ' H' → ∃ m', m' < m ∧ W (i + 1) m' σ' H') ∧ ∀ v H', (Its x).yld i H v H' → g v σ H' fun σ2 H2 => tb { D with nx := N, ct := N, bk := D.nx } σ2 H2) := by
  refine ⟨fun i m σ H => m = x.cps.size - i ∧ i ≤ x.cps.size ∧ Pv i σ H, ⟨x.cps.size, by simp, Nat.zero_le _, h0⟩, ?_⟩
  rintro i m σ H ⟨rfl, hi, p⟩
  by_cases hlt : i < x.cps.size
  · refine .inr ⟨hlt, Pv (i + 1), fun σ' H' p' => ⟨x.cps.size - (i + 1), by omega, rfl, hlt, p'⟩, fun v H' y => ?_⟩
    obtain ⟨e, c, hc, e2⟩ := y
    subst e e2
    exact hs i c σ _ hc p
  · have e : i = x.cps.size := by omega
    subst e
    exact .inl ⟨Nat.le_refl _, hd σ H p⟩
theorem mem_cps {x : Str} {i c : Nat} (h : x.cps[i]? = some c) : c ∈ x.cps.toList := by
  obtain ⟨h1, h2⟩ := Array.getElem?_eq_some_iff.mp h
  rw [← h2]
  simp
theorem cps_at {x : Str} {i c : Nat} (h : x.cps[i]? = some c) : x.cps.toList[i]? = some c := by
  rw [← h]; simp
/-- a loop that leaves at the first sign that is not so: up to i all are so -/
theorem all_take {l : List Nat} {f : Nat → Bool} {i c : Nat} (h : l[i]? = some c) (ih : (l.take i).all f = true) (hc : f c = true) : (l.take (i + 1)).all f = true := by
  rw [List.take_add_one, List.all_append, ih, h]
  simpa using hc
theorem not_all {l : List Nat} {f : Nat → Bool} {i c : Nat} (h : l[i]? = some c) (hc : f c = false) : l.all f = false := by
  rw [List.all_eq_false]
  exact ⟨c, List.mem_of_getElem? h, by rw [hc]; decide⟩
/-- an item of a text at a number below its length -/
theorem at_str {z : Str} {i : Int} (h0 : 0 ≤ i) (h1 : i < (z.length : Int)) : ∃ c, atI z.cps.toList i = some c ∧ c ∈ z.cps.toList := by
  have hl : i.toNat < z.cps.toList.length := by rw [← len_cps]; omega
  refine ⟨z.cps.toList[i.toNat], ?_, List.getElem_mem hl⟩
  have q : atI z.cps.toList ((i.toNat : Nat) : Int) = some z.cps.toList[i.toNat] := atI_nat (List.getElem?_eq_getElem hl)
  rw [show ((i.toNat : Nat) : Int) = i by omega] at q
  exact q
theorem at_list {xs : List V} {i : Int} (h0 : 0 ≤ i) (h1 : i < (xs.length : Int)) : ∃ v, atI xs i = some v ∧ xs[i.toNat]? = some v ∧ v ∈ xs := by
  have hl : i.toNat < xs.length := by omega
  refine ⟨xs[i.toNat], ?_, List.getElem?_eq_getElem hl, List.getElem_mem hl⟩
  have q : atI xs ((i.toNat : Nat) : Int) = some xs[i.toNat] := atI_nat (List.getElem?_eq_getElem hl)
  rw [show ((i.toNat : Nat) : Int) = i by omega] at q
  exact q
theorem sIx_nat' (n d : Nat) (i : Int) (h : 0 ≤ i) : HT.sIx n d (some i) = min i.toNat n := by
  have := HT.sIx_nat n d i.toNat
  rw [show ((i.toNat : Nat) : Int) = i by omega] at this
  exact this
theorem cutS_to {z : Str} {i : Int} (h0 : 0 ≤ i) : (cutS z none (some i)).cps.toList = z.cps.toList.take i.toNat := by
  unfold cutS
  show List.take (HT.sIx z.length z.length (some i) - HT.sIx z.length 0 none) (List.drop (HT.sIx z.length 0 none) z.cps.toList) = _
  rw [HT.sIx_none, sIx_nat' _ _ _ h0, List.drop_zero, Nat.sub_zero, len_cps, ← List.take_eq_take_min]
theorem cutS_from {z : Str} {i : Int} (h0 : 0 ≤ i) : (cutS z (some i) none).cps.toList = z.cps.toList.drop i.toNat := by
  unfold cutS
  show List.take (HT.sIx z.length z.length none - HT.sIx z.length 0 (some i)) (List.drop (HT.sIx z.length 0 (some i)) z.cps.toList) = _
  rw [HT.sIx_none, sIx_nat' _ _ _ h0, len_cps]
  by_cases h : i.toNat ≤ z.cps.toList.length
  · rw [Nat.min_eq_left h]
    exact List.take_of_length_le (by rw [List.length_drop]; exact Nat.le_refl _)
  · rw [Nat.min_eq_right (by omega), List.drop_of_length_le (Nat.le_refl _), List.drop_of_length_le (by omega)]
    simp
end TK
namespace TK
open PySem PySem.Spec PyProof.Rows L2
/-- an item of a text or of a list, drawn -/
def sp_pick (K : PySem.W.Frag) : Sp := fun vs H Q _ => ∃ (st : Addr) (row : V), vs = [.ref st, row] ∧ StAt H st ∧
  ((∃ z : Str, row = .str z ∧ 0 < z.length ∧ z.length ≤ sizeLine ∧ ∀ (c : Nat) (H' : Hp), Same H H' → c ∈ z.cps.toList → Q (.str ⟨#[c]⟩) H') ∨
   (∃ (p : Addr) (xs : List V), row = .ref p ∧ H p = some (.lst xs) ∧ xs ≠ [] ∧ xs.length ≤ sizeLine ∧ ∀ (v : V) (H' : Hp), Same H H' → v ∈ xs → Q v H'))
end TK
namespace TK
open PySem PySem.Spec PyProof.Rows L2
theorem app_len {x y : Str} {n m : Nat} (h : x.length ≤ n) (h2 : y.length ≤ m) (h3 : n + m ≤ 16777216) : x.length + y.length ≤ sizeLine := by
  rw [sizeLine_eq]; omega
theorem sgn_app {x : Str} {c : Nat} {l : List Nat} (h : ∀ c ∈ x.cps.toList, c ∈ l) (hc : c ∈ l) : ∀ d ∈ (x ++ (⟨#[c]⟩ : Str)).cps.toList, d ∈ l := fun d hd => by
  rw [cps_app] at hd
  rcases List.mem_append.mp hd with e | e
  · exact h d e
  · have e : d ∈ [c] := e
    rw [List.mem_singleton.mp e]; exact hc
theorem line_le {n m : Nat} (h : n ≤ m) (h2 : m ≤ 16777216) : n ≤ sizeLine := by
  rw [sizeLine_eq]; omega
end TK
namespace TK
open PySem PySem.Spec PyProof.Rows L2
theorem cutS_lento {z : Str} {i : Int} (h0 : 0 ≤ i) : (cutS z none (some i)).length = min i.toNat z.length := by
  rw [len_cps, cutS_to h0, List.length_take, ← len_cps]
theorem cutS_lenfrom {z : Str} {i : Int} (h0 : 0 ≤ i) : (cutS z (some i) none).length = z.length - i.toNat := by
  rw [len_cps, cutS_from h0, List.length_drop, ← len_cps]
end TK
namespace TK
open PySem PySem.Spec PyProof.Rows L2
theorem cutS_both {z : Str} {i j : Int} (h0 : 0 ≤ i) (h1 : i ≤ j) : (cutS z (some i) (some j)).cps.toList = (z.cps.toList.drop i.toNat).take (j.toNat - i.toNat) := by
  unfold cutS
  show List.take (HT.sIx z.length z.length (some j) - HT.sIx z.length 0 (some i)) (List.drop (HT.sIx z.length 0 (some i)) z.cps.toList) = _
  rw [sIx_nat' _ _ _ h0, sIx_nat' _ _ _ (Int.le_trans h0 h1), len_cps]
  by_cases h : i.toNat ≤ z.cps.toList.length
  · rw [Nat.min_eq_left h, List.take_eq_take_iff, List.length_drop]
    omega
  · have e1 : List.drop (min i.toNat z.cps.toList.length) z.cps.toList = [] := List.drop_of_length_le (by omega)
    have e2 : List.drop i.toNat z.cps.toList = [] := List.drop_of_length_le (by omega)
    rw [e1, e2]
    simp
theorem mem_cpsl {x : Str} : ∀ {ws : List Str}, x ∈ ws ↔ x.cps.toList ∈ ws.map fun z => z.cps.toList := fun {ws} => by
  rw [List.mem_map]
  exact ⟨fun h => ⟨x, h, rfl⟩, fun ⟨y, hy, e⟩ => str_ext e ▸ hy⟩
end TK
/-! Own toolkit, part h: what the program's top has left, told by names (a Hook with further yes-or-no facts). -/
namespace TK
open PySem PySem.Spec PyProof.Rows L2
section
variable {X : Cx} {x : Str} {v : V} {pos : Pos}
theorem pe_globE (hg : Gl X x) (h : ∃ u, X.mg x = some u ∧ RelV v u) (hd : (x == ("__debug__" : Str)) = false := by decide) : PE X (.Name x pos) (tC v) := by
  obtain ⟨u, e, r⟩ := h
  exact pe_glob hg e r hd
end
def fdNo : FuncData := PySem.W.fnOf "" "" { posonlyargs := [], args := [], vararg := none, kwonlyargs := [], kw_defaults := [], kwarg := none, defaults := [] } [] { kind := .function, names := [], isGenerator := false, isCoroutine := false } .none .none .none .none none .none .none
/-- the function object that stands there -/
def fdOf (K : PySem.W.Frag) (p : Str × Option Str) : FuncData := match K.lookup (He.fAd K p) with
  | some ⟨_, _, .func fd, _⟩ => fd
  | _ => fdNo
theorem fdOf_eq {K : PySem.W.Frag} {p : Str × Option Str} {x qual : Str} {a : Arguments} {b : List Stmt} {sc : Scope} {dvs : List V} {kws : List (Str × V)} {fd : FuncData} (F : FunD K x qual a b sc dvs kws (He.fAd K p) fd) : fdOf K p = fd := by
  obtain ⟨oc, od, dV, kV, doc, pm, an, cdv, ct, osl, e, lk, _⟩ := F.ex
  unfold fdOf
  rw [lk]
abbrev Ex : Type := List (PySem.W.Frag → Bool)
def exB (ex : Ex) (K : PySem.W.Frag) : Bool := ex.all fun e => e K
abbrev AlM : Type := He.AlD × Bool
def obsM (n : Nat) (fa : List He.Fa) (fn : List He.DefD) (ex : Ex) (g : Addr → Option Obj) : AlM := (He.obsD fa fn (He.frG g (He.asD g n)), exB ex (He.frG g (He.asD g n)))
def hookM (n : Nat) (fa : List He.Fa) (fn : List He.DefD) (ex : Ex) : PySem.W.Hook where
  α := AlM
  obs := fun s => obsM n fa fn ex s.heap.get?
  val := fun _ => (He.valD fn, true)
  says := fun _ h => ∃ K : PySem.W.Frag, K.In h ∧ He.SaysD fa fn K ∧ exB ex K = true
  of := fun _ _ e => ⟨_, He.frG_in, congrArg (fun z : AlM => z.1) e, congrArg (fun z : AlM => z.2) e⟩
  keeps := fun _ _ _ ⟨K, hK, c⟩ k => ⟨K, PySem.W.Frag.In.keeps hK k, c⟩
theorem obsM_eq {n : Nat} {fa : List He.Fa} {fn : List He.DefD} {ex : Ex} {g : Addr → Option Obj} {s : Shared} (h : ∀ a, g a = s.heap.get? a) : obsM n fa fn ex g = (hookM n fa fn ex).obs s := by
  have e : g = s.heap.get? := funext h
  rw [e] <;> rfl
/-- what is known of the written part -/
structure Facts (fa : List He.Fa) (fn : List He.DefD) (ex : Ex) (K : PySem.W.Frag) (mg : Str → Option Value) : Prop where
  heap : ∃ h : Heap, K.In h ∧ h.Ns mainGlobals mg
  says : He.SaysD fa fn K
  more : exB ex K = true
section
variable {fa : List He.Fa} {fn : List He.DefD} {ex : Ex} {K : PySem.W.Frag} {mg : Str → Option Value} (T : Facts fa fn ex K mg)
include T
theorem Facts.glo (i : Nat) (x : Str) (h : fa[i]? = some (.glo x) := by rfl) : mg x = some (.ref (He.ga K x)) := by
  obtain ⟨hp, X, G⟩ := T.heap
  exact He.glo_ok X G (T.says.fact i h)
theorem Facts.free (i : Nat) (x : Str) (h : fa[i]? = some (.free x) := by rfl) : mg x = none := by
  obtain ⟨hp, X, G⟩ := T.heap
  exact He.free_ok X G (T.says.fact i h)
theorem Facts.int (i : Nat) (x : Str) (n : Int) (h : fa[i]? = some (.int x n) := by rfl) : ∃ u, mg x = some u ∧ RelV (.int n) u := by
  obtain ⟨hp, X, G⟩ := T.heap
  obtain ⟨t, e⟩ := He.int_ok X G (T.says.fact i h)
  exact ⟨_, e, t, rfl⟩
theorem Facts.str (i : Nat) (x z : Str) (h : fa[i]? = some (.str x z) := by rfl) : ∃ u, mg x = some u ∧ RelV (.str z) u := by
  obtain ⟨hp, X, G⟩ := T.heap
  obtain ⟨t, e⟩ := He.str_ok X G (T.says.fact i h)
  exact ⟨_, e, t, rfl⟩
theorem Facts.obj (i : Nat) (x : Str) (h : fa[i]? = some (.glo x) := by rfl) : ∃ u, mg x = some u ∧ RelV (.ref (He.ga K x)) u := ⟨_, T.glo i x h, rfl⟩
theorem Facts.exf (i : Nat) (e : PySem.W.Frag → Bool) (h : ex[i]? = some e := by rfl) : e K = true :=
  List.all_eq_true.mp (show ex.all (fun e => e K) = true from T.more) e (List.mem_of_getElem? h)
theorem Facts.fct (i : Nat) (f : He.Fa) (h : fa[i]? = some f := by rfl) : f.ok K = true := T.says.fact i h
theorem Facts.cls (i : Nat) (x : Str) (h : fa[i]? = some (.cls x) := by rfl) : Cls K (He.ga K x) := He.cls_ok (T.says.fact i h)
theorem Facts.noat (i : Nat) (x f : Str) (h : fa[i]? = some (.noat x f) := by rfl) : NoAttr K (He.ga K x) f := He.noat_ok (T.says.fact i h)
theorem Facts.meth (i : Nat) (x m : Str) (h : fa[i]? = some (.meth x m) := by rfl) : Meth K (He.ga K x) m (He.ma K (He.ga K x) m) := He.meth_ok (T.says.fact i h)
theorem Facts.mkr (i : Nat) (x : Str) (h : fa[i]? = some (.mkr x) := by rfl) : Mk K (He.ga K x) (He.ma K (He.ga K x) "__init__") := He.mkr_ok (T.says.fact i h)
theorem Facts.fun_ (i : Nat) (d : He.DefD) (h : fn[i]? = some d := by rfl) : FunD K d.name d.qual d.params d.body d.scope (d.dvs K) (d.kws K) (He.fAd K d.at_) (fdOf K d.at_) := by
  obtain ⟨fd, F⟩ := T.says.def_ i h
  rw [fdOf_eq F]
  exact F
end
/-- the law's row from the head's run (as the guide's smallest head with facts), the law's promise given by facts -/
theorem row_by {l : PySem.W.OpenLaw} {i : Nat} {fa : List He.Fa} {fn : List He.DefD} {ex : Ex} {d : DefRec} {k : Nat} {q : Program} {loose : List Str} {XP : (Str → Option Value) → Heap → Prop} {sp : PySem.W.Frag → Sp} {f : PySem.W.Frag → Addr} {fd : PySem.W.Frag → FuncData}
    (hn : l.most = some 63) (hdf : d.params.defaults = []) (hr : Room k callerA) (hdn : d.name = ("law" : Str))
    (hf : ∀ K mg, Facts fa fn ex K mg → mg ("law" : Str) = some (.ref (f K)))
    (hb : ∀ K mg, Facts fa fn ex K mg → ∀ (s : Shared) (u : Value), BindsTo s (fd K) ⟨[u], []⟩ [("script", u)])
    (hsp : ∀ (K : PySem.W.Frag) (H : Hp) (a : Addr) (ns : List Int), ns.length ≤ 63 → Only H → SqL K H a (ns.map V.int) → sp K [.ref a] H (fun v _ => v = .bl true) fun _ _ _ => False)
    (hF : ∀ (w : World) K mg base, Facts fa fn ex K mg → FnOk l.prog w K mg base CX0 k (f K) (fd K) ["script"] (sp K)) :
    PySem.W.WalkO q loose XP (hookM i fa fn ex).says l.row.toRowW d [] (fun f vs => PySem.call f vs) := by
  refine L2.walk_ofE (l := l) (n := 63) (k := k) (x := "script") (CX := L2.CX0) hn (by decide) hdf hr ?F (fun _ _ _ _ z => z)
  intro w mg fa' h Y G hmg0
  obtain ⟨K, KX, c, cx⟩ := Y
  have T : Facts fa fn ex K mg := ⟨⟨h, KX, G⟩, c, cx⟩
  rw [hdn, hf K mg T] at hmg0
  cases hmg0
  exact ⟨K, fd K, sp K, KX, hb K mg T, hsp K, fun base _ _ => hF w K mg base T⟩
end TK
/-! Own toolkit, part x: own exceptions whose __init__ begins with super().__init__(..). -/
namespace TK
open PySem PySem.Spec PyProof.Rows L2 NdefX
/-- an __init__ at f, of the class at D, whose only captured name is __class__ (its cell at cc) -/
structure SupF (prog : Program) (K : PySem.W.Frag) (mg : Str → Option Value) (f : Addr) (fd : FuncData) (F : NF) (D cc : Addr) : Prop where
  fn : ∃ oc od osl doc pm ctv, fd = F.fd doc pm ctv ∧ K.lookup f = some ⟨oc, od, .func fd, osl⟩
  code : PySem.W.codeIn K (.ref F.c) F.qual = true
  file : ∃ ccl cdd vs ccs file tf, K.lookup F.c = some ⟨ccl, cdd, .fields vs, ccs⟩ ∧ vs[2]? = some (.str file tf) ∧ ((prog.main.file : Str) == file) = true
  cl : F.cl = [(("__class__" : Str), cc)]
  cell : ∃ cl cld csl, K.lookup cc = some ⟨cl, cld, .cell (some (.ref D)), csl⟩
  clsD : ∃ cd, PySem.W.clsIn K D = some cd
  sup : mg "super" = none
  top : (prog.main.scope.names.lookup ("super" : Str)).isSome = false
/-- what super() of the class at D finds above, for an exception of the class at C: ValueError's own __init__ -/
structure SupV (K : PySem.W.Frag) (C D : Addr) : Prop where
  ox : OexC K C
  mro : PySem.W.mroIn K C (.ref D) = some true
  above : PySem.W.ks_superIn K C D "__init__" = some (some (.builtin "ValueError.__init__"))
  sub : PySem.W.subIn K (.ref C) (.type "ValueError") = some true
  opq : PySem.W.nsIn K PySem.cStatics "thirdparty.any" = some none
section
variable {X : Cx} {pins : List (Addr × Obj)} {σ : L2.St} {H : Hp} {s : Shared} {a C D cc f : Addr} {F : NF} {fd : FuncData}
/-- the wrapper of ValueError.__init__ is called: nothing of it is told -/
theorem wrapper_call {u : Addr} {us : List Value} {Q : Value → Shared → Prop} {A : Around} {E : Value → Shared → Prop} (T : OexC X.K C) (I : Inv X pins σ H s) (e : H a = some (exo a C none)) (hu : s.heap.get? u = some (PySem.W.kxs_mw "ValueError.__init__" a)) (hl : us.length ≤ sizeLine)
    (h : ∀ s', Inv X pins σ H s' → Q .none s') : wpAny (model X.prog X.w) A (call (.ref u) us) Q E s := by
  obtain ⟨nm, q, N, bs, bm, sn, sub, ab, col, dd, k0, k1, k2, k3, k5, hC, hbm⟩ := T.cls
  obtain ⟨t1, ho⟩ := exo_at I.hok e
  have hC' := I.kIn _ _ hC
  have eu : upd H a (exo a C none) = H := by
    funext b
    by_cases hb : b = a
    · rw [hb, upd_same, e]
    · rw [upd_ne hb]
  have fin : ∀ h' tk, (∀ b o, b ≠ a → s.heap.get? b = some o → h'.get? b = some o) → h'.get? a = some (PySem.W.excObj C tk none .none) → Q .none { s with heap := h' } := fun h' tk k hx => by
    have J := I.write (t' := s.toks) (x := a) (e := a) (o := exo a C none) (by rw [e]; exact True.intro) (.inl rfl) k ⟨_, hx⟩ (exo_ok hx)
    rw [eu] at J
    exact h _ J
  obtain ⟨hh, g, d, tk, os⟩ := s
  refine wpAny_call (codeAny_of_tree ?_)
  show wpAny _ A.in1 (callAny (.ref u) ⟨us, []⟩) _ _ _
  simp only [callAny]
  refine wpAny_bind (wpAny_load hu ?_)
  simp only [PySem.W.kxs_mw, show (Value.type "method-wrapper" == Value.type "method" || Value.type "method-wrapper" == Value.type "builtin_function_or_method" || Value.type "method-wrapper" == Value.type "method-wrapper") = true by decide, if_true]
  refine PySem.W.KFB.if_so (by decide) ?_
  refine wpAny_bind (PySem.W.check_bound_init F.excBase_ValueError.toExcCallFacts hC' ho rfl ?_)
  refine wpAny_bind (wpAny_pure (wpAny_pure ?_))
  refine ⟨plainId_quiet F.excBase_ValueError.init.plain _, codeAny_builtin F.excBase_ValueError.initEntry ?_⟩
  exact PySem.W.exc_init_tree (cls := .ref C) (t0 := t1) (dv := none) (c2 := .none) (c3 := .none) (b4 := .bool false) ho hl fun h' k e' t' => fin h' _ k e'
/-- the object that super() gives, __init__ asked of it, the call: where ValueError's own is found -/
theorem sup_stage {p0 p1 p2 p3 p4 : Pos} {e : Expr} {es : List Expr} {ta : TA} {D' : Ends} {pl : Sem Bool} (S : SupF X.prog X.K X.mg f fd F D cc) (V : SupV X.K C D)
    (he : X.env = envF F f X.env.locals) (hN : X.N[0]? = some ("self" : Str)) (hks : F.scope.names.lookup ("super" : Str) = some .globalImplicit) (hkc : F.scope.names.lookup ("__class__" : Str) = some .free) (hsl : F.scope.names.lookup ("self" : Str) = some .local)
    (hh : (F.params.posonlyargs ++ F.params.args).head?.map (·.arg) = some ("self" : Str))
    (I : Inv X pins σ H s) (h0 : σ[0]? = some (some (.ref a))) (ha : H a = some (exo a C none)) (hp : PA X (e :: es) ta)
    (h : ta σ H fun vs H1 => vs.length ≤ 1000 ∧ H1 a = some (exo a C none) ∧ D'.nx σ H1)
    (hc : eval (.Call (.Attribute (.Call (.Name "super" p0) [] [] p1) "__init__" p2) (e :: es) [] p3) X.env = (do
      let ov ← attributeBase (.Call (.Name "super" p0) [] [] p1) "__init__" X.env (eval (.Call (.Name "super" p0) [] [] p1) X.env)
      standAt p2.atName
      let (f, first) ← holding [ov] (getMethod ov "__init__" pl)
      callWith p3 f first (backTo p3 (starEach (e :: es) X.env)) []) := by rfl)
    (hs : starEach (e :: es) X.env = (false, eval e X.env) :: starEach es X.env := by rfl) (hpl : (backTo p3 (starEach es X.env)).any (·.1) = false := by rfl) (hsw : swapsWith (.Call (.Attribute (.Call (.Name "super" p0) [] [] p1) "__init__" p2) (e :: es) [] p3) none p4.line X.env = pure false := by rfl) :
    _root_.PySem.wpAt (model X.prog X.w) X.A (.func F.body X.env) (exec (.Expr (.Call (.Attribute (.Call (.Name "super" p0) [] [] p1) "__init__" p2) (e :: es) [] p3) p4) X.env) (SP X pins D') X.xe s := by
  obtain ⟨oc, od, osl, doc, pm, ctv, rfl, lk⟩ := S.fn
  obtain ⟨ccl, cdd, cvs, ccs, file, tf, lc, hvs, hfile⟩ := S.file
  obtain ⟨cl, cld, csl, lcell⟩ := S.cell
  obtain ⟨cdD, hD⟩ := S.clsD
  have XK := I.kIn
  obtain ⟨oD, hD1, hD2⟩ : ∃ oD, s.heap.get? D = some oD ∧ oD.data = .cls cdD := by
    unfold PySem.W.clsIn at hD
    split at hD
    · rename_i c d cd' sl ho
      cases hD
      exact ⟨_, XK _ _ ho, rfl⟩
    · cases hD
  obtain ⟨t1, hx⟩ := exo_at I.hok ha
  obtain ⟨m, hns, hl⟩ := I.loc
  obtain ⟨u, ru, lu⟩ := hl 0 ("self" : Str) _ hN h0 (.inl (by rw [he]; exact hsl))
  obtain rfl : u = Value.ref a := ru
  have hk : X.env.scope.kind = .function := I.ok.kind
  have hm : m ("self" : Str) = some (.ref a) := by
    rcases lu with ⟨_, hm⟩ | ⟨hk2, _⟩
    · exact hm
    · have e1 : X.env.kindOf ("self" : Str) = some .local := by rw [he]; exact hsl
      rw [e1] at hk2
      rcases hk2 with z | z <;> cases z
  obtain ⟨ar, har, harg⟩ := Option.map_eq_some_iff.mp hh
  have hfu : X.env.func = some f := by rw [he]
  have hco : X.env.code = .ref F.c := by rw [he]
  have k1 : X.env.kindOf ("super" : Str) = some .globalImplicit := by rw [he]; exact hks
  have k2 : X.env.kindOf ("__class__" : Str) = some .free := by rw [he]; exact hkc
  have k3 : X.env.kindOf ("self" : Str) = some .local := by rw [he]; exact hsl
  have k4 : X.env.cells.lookup ("__class__" : Str) = some cc := by rw [he]; show F.cl.lookup _ = _; rw [S.cl]; rfl
  obtain ⟨mb, hb1, hb2⟩ := I.mod.blt
  have lf := XK _ _ lk
  have lcd := XK _ _ lc
  have lcc := XK _ _ lcell
  obtain ⟨hh', g, d, tk, os⟩ := s
  refine ks_wpAt_Expr_any ?_ I.quiet hsw
  refine ks_wpAt_MethodCall ?_ hc
  refine ks_wpAt_super_base (env := X.env) k1 k2 rfl hfu lf rfl har hco lcd rfl hvs hfile S.top ?_
  refine PySem.W.ks_loadName_global hk k1 (Calls.loadGlobal_builtin (env := X.env) (by rw [I.ok.glob]; exact I.mod.glob.keeps I.bk) S.sup (by rw [I.ok.blt]; exact hb1.keeps I.bk) ((hb2 _ (by decide +kernel)).trans (by decide +kernel : bootBuiltins "super" = some (.type "super"))) ⟨rfl, ?_⟩)
  refine wpAny_loadName_free hk k2 k4 ⟨_, lcc, rfl⟩ ?_
  rw [harg]
  refine wpAny_loadName_local hk k3 hns hm ?_
  refine ks_wpAny_isType_cls hD1 hD2 ⟨rfl, ?_⟩
  refine ks_wpAny_call_super hD1 hD2 hx rfl (fun c e => by cases e) (PySem.W.looks_mroIn XK V.mro) (fun h1 eso kso => ?_)
  have I1 : Inv X pins σ H ⟨h1, g, d, tk, os⟩ := I.kept (t' := tk) kso
  have nso : H hh'.objs.size = none := I.hok.fresh (Nat.le_refl _)
  cases hcd : PySem.W.clsIn X.K C with
  | none =>
    have z := V.above
    unfold PySem.W.ks_superIn at z
    rw [hcd] at z
    cases z
  | some cd =>
    have z := V.above
    unfold PySem.W.ks_superIn at z
    rw [hcd] at z
    have XK1 := I1.kIn
    have ia : (⟨h1, g, d, tk, os⟩ : Shared).heap.get? a = some (PySem.W.excObj C t1 none .none) := kso _ _ hx
    refine PySem.W.kxs_getMethod PySem.W.kxs_ValueError eso (PySem.W.looks_opaque XK1 V.opq) (l₀ := cd.mro) (fun A Q E s k q => wpAny_bind ((PySem.W.looks_clsIn XK1 hcd) A _ E s k (wpAny_pure q))) rfl XK1 z ?_ ?_ rfl ?_
    · exact (show PySem.W.InstAt h1 a (PySem.W.excObj C t1 none .none) C none from ⟨ia, rfl, rfl, trivial⟩).type.andThen (PySem.W.looks_subIn XK1 V.sub)
    · exact PySem.W.ks_ne XK1 (show PySem.W.InstAt h1 a (PySem.W.excObj C t1 none .none) C none from ⟨ia, rfl, rfl, trivial⟩) hcd
    · have k2 : ∀ b o, h1.get? b = some o → (h1.push (PySem.W.kxs_mw "ValueError.__init__" a)).get? b = some o := fun b o e => Heap.get?_push_of_some _ e
      have gu : (h1.push (PySem.W.kxs_mw "ValueError.__init__" a)).get? h1.objs.size = some (PySem.W.kxs_mw "ValueError.__init__" a) := Heap.get?_push_at rfl rfl
      have nu : H h1.objs.size = none := I1.hok.fresh (Nat.le_refl _)
      have I2 : Inv X pins σ H ⟨h1.push (PySem.W.kxs_mw "ValueError.__init__" a), g, d, tk + 1, os⟩ := I1.kept (t' := tk + 1) k2
      have I3 : Inv X ((h1.objs.size, PySem.W.kxs_mw "ValueError.__init__" a) :: pins) σ H ⟨h1.push (PySem.W.kxs_mw "ValueError.__init__" a), g, d, tk + 1, os⟩ := I2.pins_of fun p hp => by
        rcases List.mem_cons.mp hp with rfl | z
        · exact ⟨gu, nu, Nat.ne_of_gt I1.lt, I1.nofs (Nat.le_refl _), fun v e => by cases e⟩
        · exact I2.pin p (List.mem_append_right _ z)
      refine PySem.W.kxs_callWith1 (h₀ := X.base) (L := X.env.locals) (news := [(h1.objs.size, PySem.W.kxs_mw "ValueError.__init__" a)]) (i := "ValueError.__init__") (x := a) (fun p hp => ?_) List.mem_cons_self (thn (hp.run p3 _ _ σ H _ I3 h) fun us s2 q => ?_) hs hpl
      · obtain rfl : p = (h1.objs.size, PySem.W.kxs_mw "ValueError.__init__" a) := List.mem_singleton.mp hp
        refine ⟨gu, Nat.ne_of_gt I1.lt, ?_⟩
        exact Heap.get?_none_of_le (Nat.le_trans I.ok.bsz I1.sz)
      · obtain ⟨vs, H1, I4, rv, hz, e1, q1⟩ := q
        have hu := (I4.pin (h1.objs.size, PySem.W.kxs_mw "ValueError.__init__" a) (List.mem_append_right _ List.mem_cons_self)).1
        refine ⟨hu, wrapper_call V.ox I4 e1 hu ?_ fun s' I5 => ?_⟩
        · rw [← Paired.length rv, sizeLine_eq]; omega
        · exact ⟨σ, H1, I5.pins_of fun p hp => I5.pin p (List.mem_append_right _ (List.mem_cons_of_mem _ hp)), q1⟩
end
theorem look1 {α : Type} {y x : Str} {c d : α} (h : List.lookup y [(x, c)] = some d) : y = x ∧ d = c := by
  rw [List.lookup_cons, List.lookup_nil] at h
  cases e : y == x with
  | true =>
    rw [e] at h
    exact ⟨beq_iff_eq.mp e, (Option.some.inj h).symm⟩
  | false =>
    rw [e] at h
    cases h
section
variable {CX : CXT} {P : Program} {w : World} {K : PySem.W.Frag} {mg : Str → Option Value} {base : Heap} {N ps : List Str} {F : NF} {fd : FuncData} {f D cc : Addr} {k : Nat} {sp : Sp} {p0 p1 p2 p3 p4 : Pos} {e : Expr} {es : List Expr} {rest : List Stmt}
/-- an __init__ whose first statement is super().__init__(e, ..), above it ValueError's own -/
theorem fn_super (S : SupF P K mg f fd F D cc) (hS : NScope N ps ["__class__"] F.scope) (hbd : F.body = .Expr (.Call (.Attribute (.Call (.Name "super" p0) [] [] p1) "__init__" p2) (e :: es) [] p3) p4 :: rest)
    (hN : N[0]? = some ("self" : Str)) (hks : F.scope.names.lookup ("super" : Str) = some .globalImplicit) (hkc : F.scope.names.lookup ("__class__" : Str) = some .free) (hsl : F.scope.names.lookup ("self" : Str) = some .local)
    (hh : (F.params.posonlyargs ++ F.params.args).head?.map (·.arg) = some ("self" : Str)) (len : ∀ vs H Q E, sp vs H Q E → vs.length = ps.length)
    (hbody : ∀ (A : Around) (outer : List Env) (s : Shared) (H : Hp) (vs : List V) (Q : VK) (E : XK), Room k (A.deeper (envF F f s.heap.objs.size)) → sp vs H Q E →
      ∃ (a C : Addr) (vs' : List V) (ta : TA) (t : TS), vs = .ref a :: vs' ∧ SupV K C D ∧ H a = some (exo a C none) ∧ PA (ncx CX P w K mg base N F f A outer s H E) (e :: es) ta ∧ PSs (ncx CX P w K mg base N F f A outer s H E) rest t ∧
        ta (startF N vs [none]) H fun us H1 => us.length ≤ 1000 ∧ H1 a = some (exo a C none) ∧ t { nx := fun _ H' => Q .non H', rt := Q } (startF N vs [none]) H1)
    (hc : ∀ env : Env, ∃ pl, eval (.Call (.Attribute (.Call (.Name "super" p0) [] [] p1) "__init__" p2) (e :: es) [] p3) env = (do
      let ov ← attributeBase (.Call (.Name "super" p0) [] [] p1) "__init__" env (eval (.Call (.Name "super" p0) [] [] p1) env)
      standAt p2.atName
      let (f, first) ← holding [ov] (getMethod ov "__init__" pl)
      callWith p3 f first (backTo p3 (starEach (e :: es) env)) []) := by exact fun env => ⟨_, rfl⟩)
    (hs : ∀ env : Env, starEach (e :: es) env = (false, eval e env) :: starEach es env := by exact fun env => rfl) (hpl : ∀ env : Env, (backTo p3 (starEach es env)).any (·.1) = false := by exact fun env => rfl)
    (hsw : ∀ env : Env, swapsWith (.Call (.Attribute (.Call (.Name "super" p0) [] [] p1) "__init__" p2) (e :: es) [] p3) none p4.line env = pure false := by exact fun env => rfl) :
    FnOk P w K mg base CX (k + 1) f fd ps sp := by
  refine ⟨len, fun A outer s H args us vs Q E hr e0 hbi r hsp => ?_⟩
  have hl := len _ _ _ _ hsp
  obtain ⟨oc, od, osl, doc, pm, ctv, rfl, lk⟩ := S.fn
  obtain ⟨cl, cld, csl, lcell⟩ := S.cell
  have hK : K.In s.heap := fun b o q => (e0.bs b o (e0.mod.kin b o q)).1
  have lim : s.heap.NoLimit := e0.mod.nolimit.keeps fun b o e => (e0.bs b o e).1
  have ccat := e0.bs _ _ (e0.mod.kin _ _ lcell)
  have C : CellsAt F.cl ["__class__"] [(none : Option V)] s.heap H := by
    refine ⟨rfl, fun y c z => ?_, fun x y c z1 z2 => ?_, fun i y z => ?_⟩
    · rw [S.cl] at z
      obtain ⟨rfl, rfl⟩ := look1 z
      exact ⟨ccat.2, _, _, ccat.1, rfl⟩
    · rw [S.cl] at z1 z2
      exact (look1 z1).1.trans (look1 z2).1.symm
    · match i, z with
      | 0, z =>
        cases z
        refine ⟨cc, by rw [S.cl]; rfl, fun v z => ?_⟩
        cases z
      | i + 1, z => simp at z
  refine ks_codeAny_call_defAt (fd := F.fd doc pm ctv) hr.depth (hK _ _ lk) rfl lim (PySem.W.codeRec_of hK S.code) rfl hbi hS.nocell (fun x hx => hS.par _ (List.of_mem_zip hx).1) (fun h₁ hns kp => ?_) hS.co hS.gen hS.kind
  have I : Inv (ncx CX P w K mg base N F f A outer s H E) [] (startF N vs [none]) H { s with heap := h₁, toks := s.toks + (ps.zip us).length } := inv_startN hS hr.hd e0 hl r C hns kp
  obtain ⟨a, Cc, vs', ta, t, rfl, hV, ha, pa, pt, q⟩ := hbody A outer s H vs Q E (hr.deeper _) hsp
  have fin : ∀ {σ' : L2.St} {H' : Hp} {v : V} {u : Value} {s' : Shared}, Inv (ncx CX P w K mg base N F f A outer s H E) [] σ' H' s' → L2.RelV v u → Q v H' → CE outer P w H s Q u s' :=
    fun {σ' H' v u s'} J rv q => ⟨v, H', J.os, J.bare, J.base, J.hok, rv, q⟩
  have go : _root_.PySem.wpAt (model P w) (A.deeper (envF F f s.heap.objs.size)) (.func F.body (envF F f s.heap.objs.size)) (execs F.body (envF F f s.heap.objs.size)) (SP (ncx CX P w K mg base N F f A outer s H E) [] { nx := fun _ H' => Q .non H', rt := Q })
      (ncx CX P w K mg base N F f A outer s H E).xe { s with heap := h₁, toks := s.toks + (ps.zip us).length } := by
    obtain ⟨pl, hc'⟩ := hc (envF F f s.heap.objs.size)
    rw [show execs F.body (envF F f s.heap.objs.size) = execs (.Expr (.Call (.Attribute (.Call (.Name "super" p0) [] [] p1) "__init__" p2) (e :: es) [] p3) p4 :: rest) (envF F f s.heap.objs.size) by rw [hbd]]
    refine ks_wpAt_execs_cons (ks_wpAt_mono (sup_stage (X := ncx CX P w K mg base N F f A outer s H E) (D' := { nx := fun σ' H' => t { nx := fun _ H' => Q .non H', rt := Q } σ' H', rt := Q }) (pl := pl) S hV rfl hN hks hkc hsl hh I rfl ha pa q hc' (hs _) (hpl _) (hsw _)) (fun fl s' hq => ?_) fun _ _ z => z)
    cases fl with
    | next =>
      obtain ⟨σ', H', J, q'⟩ := hq
      exact wpAt_of_wpAny (pt.run [] _ σ' H' _ J q')
    | ret u => exact hq
    | brk =>
      obtain ⟨_, _, _, z⟩ := hq
      exact z.elim
    | cont =>
      obtain ⟨_, _, _, z⟩ := hq
      exact z.elim
  refine ks_wpAt_mono go (fun fl s' hq => ?_) fun _ _ z => z
  cases fl with
  | next =>
    obtain ⟨σ', H', J, q⟩ := hq
    exact fin (v := V.non) (u := Value.none) J rfl q
  | ret u =>
    obtain ⟨v, σ', H', J, rv, q⟩ := hq
    exact fin J rv q
  | brk =>
    obtain ⟨_, _, _, z⟩ := hq
    exact z.elim
  | cont =>
    obtain ⟨_, _, _, z⟩ := hq
    exact z.elim
end
end TK
/-! Own toolkit, part y: a caught error of an own class that has fields: isinstance of it. -/
namespace TK
open PySem PySem.Spec PyProof.Rows L2 PySem.W
section
variable {prog : Program} {w : World} {A : Around} {E : Value → Shared → Prop} {s : Shared} {K : PySem.W.Frag} {x D : Addr} {ox : Obj} {od : Option Obj}
theorem exc_clsD {Q : Option Value → Shared → Prop} (T : ExcC K D) (X : K.In s.heap) (I : InstAt s.heap x ox D od) (h : Q (some (.ref D)) { s with toks := s.toks + 1 }) :
    wpAny (model prog w) A (getAttr? (.ref x) "__class__") Q E s := by
  have hc : (clsIn K D).isSome = true := by obtain ⟨cd, z, _⟩ := any_some T.hd; rw [z]; rfl
  have hf : findObj K D od "__class__" = some (.bind (.builtin "getset_descriptor.__get__") (.builtin "object.__class__")) := by
    cases od with
    | none => exact findObj_dataN hc T.ha T.hn T.ht
    | some od => exact findObj_data hc T.ha T.hn T.ht
  obtain ⟨hp, gs, dr, tk, os⟩ := s
  have L0 := I.type (M := model prog w); have L1 := looks_findIn (M := model prog w) X T.hg; have L2 := looks_findIn (M := model prog w) X T.hk; have L3 := looks_find (M := model prog w) X I hf
  have ne2 : (Value.builtin "BaseException.__getattribute__" == Value.builtin "object.__getattribute__") = false := by decide +kernel
  unfold getAttr? getAttrBy? getAttrBy; refine wpAny_bind (wpAny_mkText (wpAny_bind (wpAny_attempt (wpAny_holding (wpAny_bind (L0.at (wpAny_bind (L1.at ?_))))))))
  change wpAny _ A (ite ((onTheHeap (Value.ref D) && Value.builtin "BaseException.__getattribute__" == Value.builtin "object.__getattribute__") = true) _ _) _ _ _
  rw [show (onTheHeap (Value.ref D) && Value.builtin "BaseException.__getattribute__" == Value.builtin "object.__getattribute__") = false by rw [ne2]; rfl, if_neg Bool.false_ne_true]
  unfold getAttrByItsOwn hookBefore; refine wpAny_bind ?_
  rw [if_pos (show onTheHeap (Value.ref D) = true from rfl)]; refine L2.at (wpAny_bind (wpAny_attempt (wpAny_holding ?_)))
  unfold callGetattribute
  rw [show (false && onTheHeap (Value.builtin "BaseException.__getattribute__")) = false from rfl, if_neg Bool.false_ne_true]
  unfold boundAndCalled; rw [PySem.F.excAttr_ValueError.ga.bind (.ref x)]; refine wpAny_bind (wpAny_pure ?_)
  refine wpAny_call (pos := [.ref x, .str "__class__" tk]) (codeAny_call_builtin PySem.F.excAttr_ValueError.ga.plain PySem.F.entry_bexc_ga ?_)
  refine @check_slot (model prog w) _ _ ⟨hp, gs, dr, tk + 1, os⟩ "BaseException.__getattribute__" "BaseException" "__getattribute__" (.ref x) [.str "__class__" tk] [] _ (by decide +kernel) (by decide +kernel) (L0.andThen (looks_subIn X T.hs)) (PySem.F.args_bexc_ga (.ref x) (.str "__class__" tk)) ?_
  unfold Builtin.«object.__getattribute__»
  refine wpAny_bind (wpAny_of_eq (a := ((Value.ref x : Value), [Value.str "__class__" tk])) (by first | rfl | (simp only [slotArgs]; rfl)) (wpAny_bind (wpAny_pure (wpAny_bind (L0.at (wpAny_bind (L3.at ?_)))))))
  refine wpAny_bind (wpAny_holding (wpAny_call (class_get (s := ⟨hp, gs, dr, tk + 1, os⟩) (ox := ox) (od := od) X I T.hm (wpAny_pure ?_))))
  show wpAny _ _ (handedOut (.ref D)) _ _ _
  rw [handedOut_of (v := .ref D) rfl]; first | exact wpAny_pure (wpAny_pure h) | exact wpAny_pure h | exact wpAny_pure (wpAny_bind (wpAny_pure (wpAny_pure h)))
theorem clsD_isType {M : Model} {h : Heap} (T : ExcC K D) (X : K.In h) : Looks M h (isType (.ref D)) true := by
  obtain ⟨cd, hc, _⟩ := any_some T.hd
  unfold clsIn at hc
  split at hc
  · rename_i ho
    exact fun A' Q' E' s' k q => ks_wpAny_isType_cls (h := s'.heap) (k _ _ (X _ _ ho)) rfl q
  · cases hc
theorem kitx_excD (T : ExcC K D) : KitX K (.ref x) (.ref D) (fun h => ∃ od, InstAt h x ox D od) where
  ty := fun _ _ _ ⟨_, I⟩ => I.type
  it := fun M h X _ => clsD_isType T X
  ne := (handS_kitx_exc (x := x) (ox := ox) T.hg T.hk T.hs T.hd T.ha T.hn T.ht T.hm).ne
  ca := fun X ⟨_, I⟩ k => exc_clsD T X I k
end
/-- isinstance(e, c), e the caught error at a, its class cls, its dict dd -/
def rIsD (K : PySem.W.Frag) (a : Addr) (cls : Value) (dd : Option Addr) : List V → Hp → VK → Prop := fun xs H Q => ∃ (D d : Addr) (c : V) (cv : Value) (b : Bool) (fs : List (Str × V)), cls = .ref D ∧ dd = some d ∧ ExcC K D ∧ xs = [.ref a, c] ∧ ClsV c cv ∧
  PySem.W.kitOne K (.ref D) cv = some b ∧ H d = some (.xd fs) ∧ Q (.bl b) H
theorem call_isD {X : Cx} {a : Addr} {cls : Value} {dd : Option Addr} {oe : Obj} {pn : List (Addr × Obj)} (hz : Zc cls dd oe) (hf : ∃ vs, oe.data = .fields vs) : CallR (X.suite a ((a, oe) :: pn)) (.builtin "isinstance") (rIsD X.K a cls dd) := by
  intro pins s σ H xs us Q I r h
  obtain ⟨D, d, c, cv, b, fs, rfl, rfl, T, rfl, hcv, e, hx, q⟩ := h
  obtain ⟨u1, u2, rfl, r1, r2⟩ : ∃ u1 u2, us = [u1, u2] ∧ RelV (.ref a) u1 ∧ RelV c u2 := by
    cases r with
    | cons r1 rr => cases rr with
      | cons r2 rr => cases rr; exact ⟨_, _, rfl, r1, r2⟩
  obtain rfl : u1 = Value.ref a := r1
  obtain rfl := hcv.eq r2
  obtain ⟨hget, _⟩ := I.pin (a, oe) (List.mem_append.mpr (.inl List.mem_cons_self))
  obtain ⟨vs, hv⟩ := hf
  obtain ⟨mA, hns, _⟩ := (show ObjOk X.prog X.w H s.heap d (.xd fs) from I.hok d _ hx)
  obtain ⟨od, ho, _⟩ := lookIn_ns hns
  have J : InstAt s.heap a oe D (some od) := ⟨hget, hz.1, by unfold PySem.W.notCls; rw [hv] <;> rfl, by rw [hz.2]; exact ho⟩
  exact PySem.W.kia_one (kitx_excD (ox := oe) T) I.kIn ⟨_, J⟩ e (fun z => nomatch z) fun tk => ⟨.bl b, H, I.kept (t' := tk) fun _ _ z => z, rfl, q⟩
end TK
/-! Own toolkit, part z: own exceptions with one or two fields: their __init__, their making. -/
namespace TK
open PySem PySem.Spec PyProof.Rows L2 NdefX
/-- what such an __init__ promises: the fields are kept -/
def spI (K : PySem.W.Frag) (D : Addr) (fs : List Str) : Sp := fun vs H Q _ => ∃ (a C : Addr) (xs : List V), vs = .ref a :: xs ∧ xs.length = fs.length ∧ H a = some (exo a C none) ∧ SupV K C D ∧ (∀ f ∈ fs, PySem.W.findIn K (.ref C) f = some none) ∧
  ∀ d, H d = none → d ≠ a → Q .non (upd (upd H a (exo a C (some d))) d (exd d (fs.zip xs).reverse))
theorem upd_swap {H : Hp} {a b : Addr} {o u : HO} (h : a ≠ b) : upd (upd H a o) b u = upd (upd H b u) a o := by
  funext c
  by_cases h1 : c = a
  · subst h1
    rw [upd_ne h, upd_same, upd_same]
  · by_cases h2 : c = b
    · subst h2
      rw [upd_same, upd_ne h1, upd_same]
    · rw [upd_ne h2, upd_ne h1, upd_ne h1, upd_ne h2]
section
variable {CX : CXT} {P : Program} {w : World} {K : PySem.W.Frag} {mg : Str → Option Value} {base : Heap} {F : NF} {fd : FuncData} {f D cc : Addr} {k : Nat} {p0 p1 p2 p3 p4 q1 q2 q3 q4 r0 r1 r2 r3 r4 : Pos} {msg f1 f2 : Str} {j : Nat}
/-- self.x = x, in such an __init__ -/
theorem ps_ownfld {X : Cx} {i : Nat} {g : Str} (h0 : X.N[0]? = some ("self" : Str)) (hv0 : Vis X.env.scope "self") (hi : X.N[i]? = some g) (hv : Vis X.env.scope g) (hd : (g == ("__debug__" : Str)) = false) (hcd : (g == ("__classdict__" : Str)) = false)
    (hs : swapsWith (.Name g q3) (some (.Attribute (.Name "self" q1) g q2)) q4.line X.env = pure false) :
    PS X (.Assign [.Attribute (.Name "self" q1) g q2] (.Name g q3) q4) (tOst X.K g (tVar 0) (tVar i)) := ps_ost (pe_var h0 hv0) (pe_var hi hv hd hcd) hs
theorem fn_init1 (S : SupF P K mg f fd F D cc) (hS : NScope ["self", f1, "__class__"] ["self", f1] ["__class__"] F.scope)
    (hbd : F.body = [.Expr (.Call (.Attribute (.Call (.Name "super" p0) [] [] p1) "__init__" p2) [.Constant (.str msg) j r0] [] p3) p4, .Assign [.Attribute (.Name "self" q1) f1 q2] (.Name f1 q3) q4])
    (hks : F.scope.names.lookup ("super" : Str) = some .globalImplicit) (hh : (F.params.posonlyargs ++ F.params.args).head?.map (·.arg) = some ("self" : Str)) (hd1 : (f1 == ("__debug__" : Str)) = false) (hc1 : (f1 == ("__classdict__" : Str)) = false)
    (hw1 : ∀ env : Env, swapsWith (.Name f1 q3) (some (.Attribute (.Name "self" q1) f1 q2)) q4.line env = pure false := by exact fun env => rfl)
    (hc : ∀ env : Env, ∃ pl, eval (.Call (.Attribute (.Call (.Name "super" p0) [] [] p1) "__init__" p2) [.Constant (.str msg) j r0] [] p3) env = (do
      let ov ← attributeBase (.Call (.Name "super" p0) [] [] p1) "__init__" env (eval (.Call (.Name "super" p0) [] [] p1) env)
      standAt p2.atName
      let (f, first) ← holding [ov] (getMethod ov "__init__" pl)
      callWith p3 f first (backTo p3 (starEach [.Constant (.str msg) j r0] env)) []) := by exact fun env => ⟨_, rfl⟩) :
    FnOk P w K mg base CX (k + 1) f fd ["self", f1] (spI K D [f1]) := by
  have hsl := hS.par "self" (by simp)
  have hfl := hS.par f1 (by simp)
  refine fn_super S hS hbd rfl hks (hS.frk "__class__" (by simp)) hsl hh (fun vs H Q E h => ?_) (fun A outer s H vs Q E hr h => ?_) hc
  · obtain ⟨a, C, xs, rfl, hl, _⟩ := h
    simp [hl]
  · obtain ⟨a, C, xs, rfl, hl, ha, hV, hn, q⟩ := h
    obtain ⟨x, rfl⟩ : ∃ x, xs = [x] := by
      match xs, hl with
      | [x], _ => exact ⟨x, rfl⟩
    refine ⟨a, C, [x], _, _, rfl, hV, ha, pa_cons pe_str pa_nil, pss_cons (ps_ownfld (i := 1) rfl (.inl hsl) rfl (.inl hfl) hd1 hc1 (hw1 _)) pss_nil, ?_⟩
    refine ⟨by simp, ha, ?_⟩
    refine ⟨x, rfl, .ref a, rfl, a, C, rfl, hV.ox, hn f1 (by simp), .inl ⟨ha, fun d hd ne => ?_⟩⟩
    have z := q d hd ne
    rw [upd_swap (Ne.symm ne)] at z
    exact z
theorem fn_init2 (S : SupF P K mg f fd F D cc) (hS : NScope ["self", f1, f2, "__class__"] ["self", f1, f2] ["__class__"] F.scope)
    (hbd : F.body = [.Expr (.Call (.Attribute (.Call (.Name "super" p0) [] [] p1) "__init__" p2) [.Constant (.str msg) j r0] [] p3) p4, .Assign [.Attribute (.Name "self" q1) f1 q2] (.Name f1 q3) q4, .Assign [.Attribute (.Name "self" r1) f2 r2] (.Name f2 r3) r4])
    (hks : F.scope.names.lookup ("super" : Str) = some .globalImplicit) (hh : (F.params.posonlyargs ++ F.params.args).head?.map (·.arg) = some ("self" : Str)) (hd1 : (f1 == ("__debug__" : Str)) = false) (hc1 : (f1 == ("__classdict__" : Str)) = false) (hd2 : (f2 == ("__debug__" : Str)) = false) (hc2 : (f2 == ("__classdict__" : Str)) = false)
    (hw1 : ∀ env : Env, swapsWith (.Name f1 q3) (some (.Attribute (.Name "self" q1) f1 q2)) q4.line env = pure false := by exact fun env => rfl)
    (hw2 : ∀ env : Env, swapsWith (.Name f2 r3) (some (.Attribute (.Name "self" r1) f2 r2)) r4.line env = pure false := by exact fun env => rfl)
    (hc : ∀ env : Env, ∃ pl, eval (.Call (.Attribute (.Call (.Name "super" p0) [] [] p1) "__init__" p2) [.Constant (.str msg) j r0] [] p3) env = (do
      let ov ← attributeBase (.Call (.Name "super" p0) [] [] p1) "__init__" env (eval (.Call (.Name "super" p0) [] [] p1) env)
      standAt p2.atName
      let (f, first) ← holding [ov] (getMethod ov "__init__" pl)
      callWith p3 f first (backTo p3 (starEach [.Constant (.str msg) j r0] env)) []) := by exact fun env => ⟨_, rfl⟩) :
    FnOk P w K mg base CX (k + 1) f fd ["self", f1, f2] (spI K D [f1, f2]) := by
  have hsl := hS.par "self" (by simp)
  have hfl := hS.par f1 (by simp)
  have hfl2 := hS.par f2 (by simp)
  refine fn_super S hS hbd rfl hks (hS.frk "__class__" (by simp)) hsl hh (fun vs H Q E h => ?_) (fun A outer s H vs Q E hr h => ?_) hc
  · obtain ⟨a, C, xs, rfl, hl, _⟩ := h
    simp [hl]
  · obtain ⟨a, C, xs, rfl, hl, ha, hV, hn, q⟩ := h
    obtain ⟨x, y, rfl⟩ : ∃ x y, xs = [x, y] := by
      match xs, hl with
      | [x, y], _ => exact ⟨x, y, rfl⟩
    refine ⟨a, C, [x, y], _, _, rfl, hV, ha, pa_cons pe_str pa_nil, pss_cons (ps_ownfld (i := 1) rfl (.inl hsl) rfl (.inl hfl) hd1 hc1 (hw1 _)) (pss_cons (ps_ownfld (i := 2) rfl (.inl hsl) rfl (.inl hfl2) hd2 hc2 (hw2 _)) pss_nil), ?_⟩
    refine ⟨by simp, ha, ?_⟩
    refine ⟨x, rfl, .ref a, rfl, a, C, rfl, hV.ox, hn f1 (by simp), .inl ⟨ha, fun d hd ne => ?_⟩⟩
    refine ⟨y, rfl, .ref a, rfl, a, C, rfl, hV.ox, hn f2 (by simp), .inr ⟨d, [(f1, x)], upd_same, by rw [upd_ne ne, upd_same], by simp, ?_⟩⟩
    have z := q d hd ne
    rw [upd_swap (Ne.symm ne)] at z
    rw [upd_swap (Ne.symm ne), upd_upd]
    exact z
end
section
variable {X : Cx} {CX : CXT} {x : Str} {C fI : Addr} {k : Nat} {fd : FuncData} {ps fs : List Str} {e : Expr} {es : List Expr} {ta : TA} {p pos : Pos}
/-- C(e, ..), C a class with such an __init__ -/
theorem pmk_flds (V : SupV X.K C C) (iC : PySem.W.findIn X.K (.ref C) "__init__" = some (some (.ref fI))) (tI : PySem.W.typeIn X.K (.ref fI) = some (.type "function")) (hn : ∀ f ∈ fs, PySem.W.findIn X.K (.ref C) f = some none)
    (F1 : FnOk X.prog X.w X.K X.mg X.base CX k fI fd ps (spI X.K C fs)) (hr : Room (k + 1) X.A) (hb : Binds X.K fd ps []) (hx : Passes CX X (fun _ _ _ => False)) (hg : Gl X x) (hm : X.mg x = some (.ref C)) (ha : PA X (e :: es) ta)
    (hdb : (x == ("__debug__" : Str)) = false := by decide) (he : starEach (e :: es) X.env = (false, eval e X.env) :: starEach es X.env := by rfl) (hpl : (backTo pos (starEach es X.env)).any (·.1) = false := by rfl) :
    PMk X (.Call (.Name x p) (e :: es) [] pos) (fun σ H Q => ta σ H fun vs H1 => vs.length = fs.length ∧ vs.length ≤ 1000 ∧ ∀ d, H1 d = none → Q (.ref C) (some d) (upd H1 d (.xd (fs.zip vs).reverse))) := by
  intro pins s σ H Q I h
  have ha' : PA X (e :: es) (fun σ' H' R => σ' = σ ∧ H' = H ∧ ∀ vs H1, (vs.length = fs.length ∧ vs.length ≤ 1000 ∧ ∀ d, H1 d = none → Q (.ref C) (some d) (upd H1 d (.xd (fs.zip vs).reverse))) → R vs H1) :=
    ⟨fun pos pins s σ' H' R I' z => by
      obtain ⟨rfl, rfl, imp⟩ := z
      exact thn (ha.run pos pins s _ _ _ I' h) fun us s1 ⟨vs, H1, I1, r1, q1⟩ => ⟨vs, H1, I1, r1, imp _ _ q1⟩⟩
  refine pmk_oex (dvs := []) V.ox iC tI F1 hr hb .nil hx hg hm ha' hdb he hpl pins s σ H Q I ⟨rfl, rfl, fun vs H1 ⟨hl, hz, q⟩ => ⟨hz, fun a hna => ⟨a, C, vs, by rw [List.append_nil], hl, upd_same, V, hn, fun d hd ne => ?_⟩⟩⟩
  have hd1 : H1 d = none := by rw [upd_ne ne] at hd; exact hd
  refine ⟨rfl, d, (fs.zip vs).reverse, by rw [upd_ne (Ne.symm ne), upd_same], upd_same, hd1, ?_⟩
  have e : upd (del (upd (upd (upd H1 a (exo a C none)) a (exo a C (some d))) d (exd d (fs.zip vs).reverse)) a) d (.xd (fs.zip vs).reverse) = upd H1 d (.xd (fs.zip vs).reverse) := by
    funext b
    by_cases h1 : b = d
    · subst h1
      rw [upd_same, upd_same]
    · rw [upd_ne h1, upd_ne h1]
      by_cases h2 : b = a
      · subst h2
        rw [del_same, hna]
      · rw [del_ne h2, upd_ne h1, upd_ne h2, upd_ne h2]
  rw [e]
  exact q d hd1
end
end TK
/-! Own toolkit, part i: what the top has left of own exception classes, as yes-or-no facts. -/
namespace TK
open PySem PySem.Spec PyProof.Rows L2 NdefX
theorem ba2 {a b : Bool} (h : (a && b) = true) : a = true ∧ b = true := Bool.and_eq_true_iff.mp h
def oexB (K : PySem.W.Frag) (C : Addr) : Bool := (match K.lookup C with
  | some ⟨.type ty, _, .cls cd, sl⟩ => decide (ty = "type") && (cd.hasDict && (!cd.hasDel && ((match cd.mro with
    | .ref c :: bm => decide (c = C) && PySem.HandSPX.refsVE bm
    | _ => false) && (match sl.toList with
    | [_, _, _, _, some (.builtin n), _] => decide (n = "ValueError.__new__")
    | _ => false))))
  | _ => false) && (decide (PySem.W.findIn K (.ref C) "__setattr__" = some (some (.builtin "object.__setattr__"))) && (decide (PySem.W.subIn K (.ref C) (.type "BaseException") = some true) &&
    (decide (PySem.W.typeIn K (.ref C) = some (.type "type")) && PySem.W.keepIn K (.ref C))))
theorem oexB_ok {K : PySem.W.Frag} {C : Addr} (h : oexB K C = true) : OexC K C := by
  obtain ⟨h1, h2⟩ := ba2 h
  obtain ⟨h3, h4⟩ := ba2 h2
  obtain ⟨h5, h6⟩ := ba2 h4
  obtain ⟨h7, h8⟩ := ba2 h6
  refine ⟨?_, of_decide_eq_true h3, of_decide_eq_true h5, of_decide_eq_true h7, h8⟩
  cases q : K.lookup C with
  | none =>
    rw [q] at h1
    cases h1
  | some o =>
    obtain ⟨oc, od, dt, osl⟩ := o
    rw [q] at h1
    cases oc with
    | type ty =>
      cases dt with
      | cls cd =>
        obtain ⟨n1, n2, n3, n4, n5, n6, n7, n8, n9, n10, n11⟩ := cd
        obtain ⟨a1, a2⟩ := ba2 h1
        obtain ⟨a3, a4⟩ := ba2 a2
        obtain ⟨a5, a6⟩ := ba2 a4
        obtain ⟨a7, a8⟩ := ba2 a6
        dsimp only at a3 a5 a7
        have e1 := of_decide_eq_true a1
        split at a7
        · rename_i c bm
          obtain ⟨b1, b2⟩ := ba2 a7
          have e2 := of_decide_eq_true b1
          split at a8
          · rename_i k0 k1 k2 k3 nn k5 hsl
            have e3 := of_decide_eq_true a8
            subst e1 e2 e3
            cases n6 with
            | false => cases a3
            | true =>
              cases n11 with
              | true => cases a5
              | false =>
                refine ⟨n1, n5, n4, n2, bm, n7, n8, n9, n10, od, k0, k1, k2, k3, k5, ?_, b2⟩
                obtain ⟨ls⟩ := osl
                obtain rfl : ls = _ := hsl
                rfl
          · cases a8
        · cases a7
      | _ => cases h1
    | _ => cases dt <;> cases h1
def supVB (K : PySem.W.Frag) (C D : Addr) : Bool := oexB K C && (decide (PySem.W.mroIn K C (.ref D) = some true) && (decide (PySem.W.ks_superIn K C D "__init__" = some (some (.builtin "ValueError.__init__"))) &&
  (decide (PySem.W.subIn K (.ref C) (.type "ValueError") = some true) && decide (PySem.W.nsIn K PySem.cStatics "thirdparty.any" = some none))))
theorem supVB_ok {K : PySem.W.Frag} {C D : Addr} (h : supVB K C D = true) : SupV K C D := by
  obtain ⟨h1, h2⟩ := ba2 h
  obtain ⟨h3, h4⟩ := ba2 h2
  obtain ⟨h5, h6⟩ := ba2 h4
  obtain ⟨h7, h8⟩ := ba2 h6
  exact ⟨oexB_ok h1, of_decide_eq_true h3, of_decide_eq_true h5, of_decide_eq_true h7, of_decide_eq_true h8⟩
def excCB (K : PySem.W.Frag) (C : Addr) : Bool := decide (PySem.W.findIn K (.ref C) "__getattribute__" = some (some (.builtin "BaseException.__getattribute__"))) && (decide (PySem.W.findIn K (.ref C) "__getattr__" = some none) && (decide (PySem.W.subIn K (.ref C) (.type "BaseException") = some true) &&
  (PySem.W.hasDictIn K C && (decide (PySem.W.findIn K (.ref C) "__class__" = some (some (.builtin "object.__class__"))) && (decide (PySem.W.specialIn K (.builtin "object.__class__") "__get__" = some (some (.builtin "getset_descriptor.__get__"))) &&
    (decide (PySem.W.takesIn K (.builtin "object.__class__") = some true) && decide (PySem.W.mroIn K C (.type "object") = some true)))))))
theorem excCB_ok {K : PySem.W.Frag} {C : Addr} (h : excCB K C = true) : ExcC K C := by
  obtain ⟨h1, h⟩ := ba2 h
  obtain ⟨h2, h⟩ := ba2 h
  obtain ⟨h3, h⟩ := ba2 h
  obtain ⟨h4, h⟩ := ba2 h
  obtain ⟨h5, h⟩ := ba2 h
  obtain ⟨h6, h⟩ := ba2 h
  obtain ⟨h7, h8⟩ := ba2 h
  exact ⟨of_decide_eq_true h1, of_decide_eq_true h2, of_decide_eq_true h3, h4, of_decide_eq_true h5, of_decide_eq_true h6, of_decide_eq_true h7, of_decide_eq_true h8⟩
/-- an own class whose instances have these fields: all that is asked of it -/
def ownB (K : PySem.W.Frag) (x : Str) (fs : List Str) : Bool := supVB K (He.ga K x) (He.ga K x) && (excCB K (He.ga K x) && (xfB K (He.ga K x) && (fs.all (fun f => decide (PySem.W.findIn K (.ref (He.ga K x)) f = some none)) &&
  (decide (PySem.W.findIn K (.ref (He.ga K x)) "__init__" = some (some (.ref (He.ma K (He.ga K x) "__init__")))) && decide (PySem.W.typeIn K (.ref (He.ma K (He.ga K x) "__init__")) = some (.type "function"))))))
structure Own (K : PySem.W.Frag) (x : Str) (fs : List Str) : Prop where
  v : SupV K (He.ga K x) (He.ga K x)
  e : ExcC K (He.ga K x)
  f : XfC K (He.ga K x)
  n : ∀ f ∈ fs, PySem.W.findIn K (.ref (He.ga K x)) f = some none
  i : PySem.W.findIn K (.ref (He.ga K x)) "__init__" = some (some (.ref (He.ma K (He.ga K x) "__init__")))
  t : PySem.W.typeIn K (.ref (He.ma K (He.ga K x) "__init__")) = some (.type "function")
theorem ownB_ok {K : PySem.W.Frag} {x : Str} {fs : List Str} (h : ownB K x fs = true) : Own K x fs := by
  obtain ⟨h1, h⟩ := ba2 h
  obtain ⟨h2, h⟩ := ba2 h
  obtain ⟨h3, h⟩ := ba2 h
  obtain ⟨h4, h⟩ := ba2 h
  obtain ⟨h5, h6⟩ := ba2 h
  exact ⟨supVB_ok h1, excCB_ok h2, xfB_ok h3, fun f hf => of_decide_eq_true (List.all_eq_true.mp h4 f hf), of_decide_eq_true h5, of_decide_eq_true h6⟩
/-! ### its __init__ -/
abbrev IniW : Type := Option (Str × Str × Arguments × FuncBody × Scope × Addr × Addr)
/-- the init function of class x -/
def iniW (K : PySem.W.Frag) (x : Str) : IniW := match K.lookup (He.ma K (He.ga K x) "__init__") with
  | some ⟨_, _, .func fd, _⟩ => some (fd.name, fd.qualname, fd.params, fd.body, fd.scope, fd.globals, fd.builtins)
  | _ => none
structure IniD where
  cls : Str
  qual : Str
  params : Arguments
  body : List Stmt
  scope : Scope
def IniD.val (d : IniD) : IniW := some ("__init__", d.qual, d.params, .stmts d.body, d.scope, mainGlobals, builtinsNs)
def IniD.nf (K : PySem.W.Frag) (d : IniD) : NF := ⟨"__init__", d.qual, d.params, d.body, d.scope, (fdOf K (d.cls, some "__init__")).closure, match (fdOf K (d.cls, some "__init__")).code with | .ref c => c | _ => 0⟩
def iniB (P : Program) (K : PySem.W.Frag) (d : IniD) : Bool := match K.lookup (He.ma K (He.ga K d.cls) "__init__") with
  | some ⟨_, _, .func fd, _⟩ => (match fd.defaults, fd.kwdefaults, fd.annotations with
    | .none, .none, none => true
    | _, _, _ => false) && (PySem.W.codeIn K fd.code d.qual && ((match fd.closure with
    | [(n, cc)] => decide (n = "__class__") && (match K.lookup cc with
      | some ⟨_, _, .cell (some (.ref D)), _⟩ => decide (D = He.ga K d.cls)
      | _ => false)
    | _ => false) && ((match fd.code with
    | .ref c => (match K.lookup c with
      | some ⟨_, _, .fields vs, _⟩ => (match (vs[2]? : Option Value) with
        | some (.str file _) => (P.main.file : Str) == file
        | _ => false)
      | _ => false)
    | _ => false) && !(P.main.scope.names.lookup ("super" : Str)).isSome)))
  | _ => false
theorem ini_ok {P : Program} {K : PySem.W.Frag} {mg : Str → Option Value} {d : IniD} (e : iniW K d.cls = d.val) (c : iniB P K d = true) (hD : ∃ cd, PySem.W.clsIn K (He.ga K d.cls) = some cd) (hs : mg "super" = none) :
    ∃ cc, SupF P K mg (He.ma K (He.ga K d.cls) "__init__") (fdOf K (d.cls, some "__init__")) (d.nf K) (He.ga K d.cls) cc := by
  unfold iniW at e
  unfold iniB at c
  have ef : fdOf K (d.cls, some "__init__") = match K.lookup (He.ma K (He.ga K d.cls) "__init__") with
    | some ⟨_, _, .func fd, _⟩ => fd
    | _ => fdNo := rfl
  cases q : K.lookup (He.ma K (He.ga K d.cls) "__init__") with
  | none =>
    rw [q] at c
    cases c
  | some o =>
    obtain ⟨oc, od, dt, osl⟩ := o
    rw [q] at c e ef
    cases dt with
    | func fd =>
      dsimp only at ef
      have e2 : (some (fd.name, fd.qualname, fd.params, fd.body, fd.scope, fd.globals, fd.builtins) : IniW) = (some (("__init__" : Str), d.qual, d.params, FuncBody.stmts d.body, d.scope, mainGlobals, builtinsNs) : IniW) := e
      obtain ⟨a1, a2⟩ := ba2 c
      obtain ⟨a3, a4⟩ := ba2 a2
      obtain ⟨a5, a6⟩ := ba2 a4
      obtain ⟨a7, a8⟩ := ba2 a6
      split at a1
      · rename_i z1 z2 z3
        split at a5
        · rename_i n cc hcl
          obtain ⟨b1, b2⟩ := ba2 a5
          split at b2
          · rename_i cl cld D csl hcc
            split at a7
            · rename_i cv hcv
              split at a7
              · rename_i ccl cdd vs ccs hcd
                split at a7
                · rename_i file tf hvs
                  refine ⟨cc, ⟨?_, ?_, ?_, ?_, ?_, hD, hs, ?_⟩⟩
                  · refine ⟨oc, od, osl, fd.doc, fd.pyModule, fd.closureTuple, ?_, by rw [ef]; exact q⟩
                    unfold IniD.nf
                    rw [ef, hcv]
                    obtain ⟨n1, n2, n3, n4, n5, n6, n7, n8, n9, n10, n11, n12, n13, n14, n15⟩ := fd
                    simp only [Option.some.injEq, Prod.mk.injEq] at e2
                    obtain ⟨y1, y2, y3, y4, y5, y6, y7⟩ := e2
                    dsimp only at z1 z2 z3 hcv
                    subst y1 y2 y3 y4 y5 y6 y7 z1 z2 z3 hcv
                    rfl
                  · show PySem.W.codeIn K (.ref (match (fdOf K (d.cls, some "__init__")).code with | .ref c => c | _ => 0)) d.qual = true
                    rw [ef, hcv]
                    rw [hcv] at a3
                    exact a3
                  · refine ⟨ccl, cdd, vs, ccs, file, tf, ?_, hvs, a7⟩
                    show K.lookup (match (fdOf K (d.cls, some "__init__")).code with | .ref c => c | _ => 0) = _
                    rw [ef, hcv]
                    exact hcd
                  · show (fdOf K (d.cls, some "__init__")).closure = _
                    rw [ef, hcl, of_decide_eq_true b1]
                  · refine ⟨cl, cld, csl, ?_⟩
                    rw [← of_decide_eq_true b2]
                    exact hcc
                  · cases w : (P.main.scope.names.lookup ("super" : Str)).isSome with
                    | false => rfl
                    | true =>
                      rw [w] at a8
                      cases a8
                · cases a7
              · cases a7
            · cases a7
          · cases b2
        · cases a5
      · cases a1
    | _ => cases c
/-! ### the hook with them -/
def asN (g : Addr → Option Obj) (n : Nat) : List Addr := PySem.cStatics :: He.asD g n
abbrev AlN : Type := AlM × List IniW
def obsN (n : Nat) (fa : List He.Fa) (fn : List He.DefD) (ex : Ex) (fi : List IniD) (g : Addr → Option Obj) : AlN :=
  ((He.obsD fa fn (He.frG g (asN g n)), exB ex (He.frG g (asN g n))), fi.map fun d => iniW (He.frG g (asN g n)) d.cls)
structure FactsN (fa : List He.Fa) (fn : List He.DefD) (ex : Ex) (fi : List IniD) (K : PySem.W.Frag) (mg : Str → Option Value) : Prop where
  b : Facts fa fn ex K mg
  ini : (fi.map fun d => iniW K d.cls) = fi.map IniD.val
def hookN (n : Nat) (fa : List He.Fa) (fn : List He.DefD) (ex : Ex) (fi : List IniD) : PySem.W.Hook where
  α := AlN
  obs := fun s => obsN n fa fn ex fi s.heap.get?
  val := fun _ => ((He.valD fn, true), fi.map IniD.val)
  says := fun _ h => ∃ K : PySem.W.Frag, K.In h ∧ He.SaysD fa fn K ∧ exB ex K = true ∧ (fi.map fun d => iniW K d.cls) = fi.map IniD.val
  of := fun _ _ e => ⟨_, He.frG_in, congrArg (fun z : AlN => z.1.1) e, congrArg (fun z : AlN => z.1.2) e, congrArg (fun z : AlN => z.2) e⟩
  keeps := fun _ _ _ ⟨K, hK, c⟩ k => ⟨K, PySem.W.Frag.In.keeps hK k, c⟩
theorem obsN_eq {n : Nat} {fa : List He.Fa} {fn : List He.DefD} {ex : Ex} {fi : List IniD} {g : Addr → Option Obj} {s : Shared} (h : ∀ a, g a = s.heap.get? a) : obsN n fa fn ex fi g = (hookN n fa fn ex fi).obs s := by
  obtain rfl : g = s.heap.get? := funext h
  rfl
theorem FactsN.ini_ {fa : List He.Fa} {fn : List He.DefD} {ex : Ex} {fi : List IniD} {K : PySem.W.Frag} {mg : Str → Option Value} (T : FactsN fa fn ex fi K mg) (i : Nat) (d : IniD) (h : fi[i]? = some d := by rfl) : iniW K d.cls = d.val := by
  have e2 : (fi.map fun d => iniW K d.cls)[i]? = (fi.map IniD.val)[i]? := by rw [T.ini]
  rw [List.getElem?_map, List.getElem?_map, h] at e2
  exact Option.some.inj e2
theorem FactsN.supF {fa : List He.Fa} {fn : List He.DefD} {ex : Ex} {fi : List IniD} {K : PySem.W.Frag} {mg : Str → Option Value} {P : Program} {fs : List Str} (T : FactsN fa fn ex fi K mg) (i : Nat) (d : IniD) (c : iniB P K d = true) (o : Own K d.cls fs) (hs : mg "super" = none) (h : fi[i]? = some d := by rfl) :
    ∃ cc, SupF P K mg (He.ma K (He.ga K d.cls) "__init__") (fdOf K (d.cls, some "__init__")) (d.nf K) (He.ga K d.cls) cc := by
  refine ini_ok (T.ini_ i d h) c ?_ hs
  obtain ⟨cd, z, _⟩ := PySem.W.any_some o.f.hdC
  exact ⟨cd, z⟩
/-- as row_by, with them -/
theorem row_byN {l : PySem.W.OpenLaw} {i : Nat} {fa : List He.Fa} {fn : List He.DefD} {ex : Ex} {fi : List IniD} {d : DefRec} {k : Nat} {q : Program} {loose : List Str} {XP : (Str → Option Value) → Heap → Prop} {sp : PySem.W.Frag → Sp} {f : PySem.W.Frag → Addr} {fd : PySem.W.Frag → FuncData}
    (hn : l.most = some 63) (hdf : d.params.defaults = []) (hr : Room k callerA) (hdn : d.name = ("law" : Str)) (hf : ∀ K mg, FactsN fa fn ex fi K mg → mg ("law" : Str) = some (.ref (f K)))
    (hb : ∀ K mg, FactsN fa fn ex fi K mg → ∀ (s : Shared) (u : Value), BindsTo s (fd K) ⟨[u], []⟩ [("script", u)])
    (hsp : ∀ (K : PySem.W.Frag) (H : Hp) (a : Addr) (ns : List Int), ns.length ≤ 63 → Only H → SqL K H a (ns.map V.int) → sp K [.ref a] H (fun v _ => v = .bl true) fun _ _ _ => False)
    (hF : ∀ (w : World) K mg base, FactsN fa fn ex fi K mg → FnOk l.prog w K mg base CX0 k (f K) (fd K) ["script"] (sp K)) :
    PySem.W.WalkO q loose XP (hookN i fa fn ex fi).says l.row.toRowW d [] (fun f vs => PySem.call f vs) := by
  refine L2.walk_ofE (l := l) (n := 63) (k := k) (x := "script") (CX := L2.CX0) hn (by decide) hdf hr (fun {w mg fa'} h Y G hmg0 => ?_) (fun _ _ _ _ z => z)
  obtain ⟨K, KX, c, cx, ci⟩ := Y
  have T : FactsN fa fn ex fi K mg := ⟨⟨⟨h, KX, G⟩, c, cx⟩, ci⟩
  rw [hdn, hf K mg T] at hmg0
  cases hmg0
  exact ⟨K, fd K, sp K, KX, hb K mg T, hsp K, fun base _ _ => hF w K mg base T⟩
end TK
/-! Own toolkit, part Ld: as part p, with dicts of texts and whole numbers; walks over a dict's keys. -/
namespace TK
open PySem PySem.Spec PyProof.Rows L2
inductive D where
  | non
  | bl (b : Bool)
  | int (i : Int)
  | str (s : Str)
  | lst (l : List D)
  | tup (l : List D)
  | dic (kvs : List (Str × Int))
/-- an entry -/
abbrev dkv (r : Str × Int) : L2.Key × V := (Sum.inr r.1, .int r.2)
/-- items by items -/
inductive AllI (R : V → D → Prop) : List V → List D → Prop
  | nil : AllI R [] []
  | cons {v d vs ds} (h : R v d) (t : AllI R vs ds) : AllI R (v :: vs) (d :: ds)
/-- the value v is, in the heap H, the tree d -/
inductive Is (H : Hp) : V → D → Prop
  | non : Is H .non .non
  | bl (b : Bool) : Is H (.bl b) (.bl b)
  | int (i : Int) : Is H (.int i) (.int i)
  | str (s : Str) (h : s.length ≤ sizeLine) : Is H (.str s) (.str s)
  | lst {p : Addr} {vs : List V} {ds : List D} (e : H p = some (.lst vs)) (z : vs.length ≤ sizeLine) (a : AllI (Is H) vs ds) : Is H (.ref p) (.lst ds)
  | tup {p : Addr} {vs : List V} {ds : List D} (e : Rd H p (.tup vs)) (z : vs.length ≤ sizeLine) (a : AllI (Is H) vs ds) : Is H (.ref p) (.tup ds)
  | dic {p : Addr} {kvs : List (Str × Int)} (e : H p = some (.dK (kvs.map dkv))) (nd : (kvs.map (·.1)).Nodup) (z : ∀ r ∈ kvs, r.1.length ≤ sizeLine) (few : kvs.length ≤ 1000) : Is H (.ref p) (.dic kvs)
theorem rd_same {H H' : Hp} {p : Addr} {u : HO} (s : Same H H') (h : Rd H p u) : Rd H' p u := h.imp (s _ _) fun ⟨o, e⟩ => ⟨o, s _ _ e⟩
theorem sqT_same {K : PySem.W.Frag} {H H' : Hp} {p : Addr} {vs : List V} (s : Same H H') (h : SqT K H p vs) : SqT K H' p vs := h.imp (rd_same s) id
mutual
theorem Is.mono {H H' : Hp} (s : Same H H') : ∀ {v : V} {d : D}, Is H v d → Is H' v d
  | _, _, .non => .non
  | _, _, .bl b => .bl b
  | _, _, .int i => .int i
  | _, _, .str x h => .str x h
  | _, _, .lst e z a => .lst (s _ _ e) z (AllI.mono s a)
  | _, _, .tup e z a => .tup (rd_same s e) z (AllI.mono s a)
  | _, _, .dic e nd z f => .dic (s _ _ e) nd z f
theorem AllI.mono {H H' : Hp} (s : Same H H') : ∀ {vs : List V} {ds : List D}, AllI (Is H) vs ds → AllI (Is H') vs ds
  | _, _, .nil => .nil
  | _, _, .cons h t => .cons (Is.mono s h) (AllI.mono s t)
end
theorem AllI.len {R : V → D → Prop} : ∀ {vs : List V} {ds : List D}, AllI R vs ds → vs.length = ds.length
  | _, _, .nil => rfl
  | _, _, .cons _ t => by rw [List.length_cons, List.length_cons, t.len]
theorem AllI.get {R : V → D → Prop} : ∀ {vs : List V} {ds : List D} (_ : AllI R vs ds) {i : Nat} {v : V}, vs[i]? = some v → ∃ d, ds[i]? = some d ∧ R v d
  | _, _, .cons h t, 0, v, e => by
    have e : some _ = some v := e
    cases e
    exact ⟨_, rfl, h⟩
  | _, _, .cons h t, i + 1, v, e => t.get (i := i) e
theorem AllI.app {R : V → D → Prop} : ∀ {vs : List V} {ds : List D} {us : List V} {es : List D}, AllI R vs ds → AllI R us es → AllI R (vs ++ us) (ds ++ es)
  | _, _, _, _, .nil, b => b
  | _, _, _, _, .cons h t, b => .cons h (t.app b)
theorem AllI.one {R : V → D → Prop} {v : V} {d : D} (h : R v d) : AllI R [v] [d] := .cons h .nil
def D.kd : D → String
  | .non => "NoneType"
  | .bl _ => "bool"
  | .int _ => "int"
  | .str _ => "str"
  | .lst _ => "list"
  | .tup _ => "tuple"
  | .dic _ => "dict"
theorem Is.ty {K : PySem.W.Frag} {H : Hp} {v : V} {d : D} (h : Is H v d) : TyX K H v (.type d.kd) := by
  cases h with
  | non => exact .base .non
  | bl b => exact .base (.bl b)
  | int i => exact .base (.int i)
  | str s _ => exact .base (.str s)
  | lst e _ _ => exact .base (.lst e)
  | tup e _ _ =>
    rcases e with e | ⟨o, e⟩
    · exact .base (.tup e)
    · exact .fTuple e
  | dic e _ _ _ => exact .base (.dK e)
/-- isinstance(x, T) of such a value -/
theorem isi_D {K : PySem.W.Frag} {H : Hp} {v : V} {d : D} {T : String} {b : Bool} {Q : VK} (h : Is H v d) (e : kitB d.kd T = some b) (q : Q (.bl b) H) : rIsi K [v, .ty T] H Q :=
  ⟨v, .ty T, .type d.kd, .type T, b, rfl, .ty _, h.ty, kit_ty e, q⟩
theorem cb_isi {K : PySem.W.Frag} {i : Nat} {T : String} {b : Bool} {σ : L2.St} {H : Hp} {Q : VK} {v : V} {d : D} (hs : σ[i]? = some (some v)) (h : Is H v d) (e : kitB d.kd T = some b) (q : Q (.bl b) H) :
    tCB (rIsi K) (tCons (tVar i) (tCons (tC (.ty T)) tNil)) σ H Q := ⟨v, hs, isi_D h e q⟩
/-- the same tree twice, of a kind R: told alike -/
def sp_same (R : D → Prop) : Sp := fun vs H Q _ => ∃ (x y : V) (d : D), vs = [x, y] ∧ Is H x d ∧ Is H y d ∧ R d ∧ ∀ H', Same H H' → Q (.bl true) H'
theorem same_end {H : Hp} {Q : VK} {a : V} (q : ∀ H', Same H H' → Q (.bl true) H') : Q (.bl (decide (a = a))) H := by
  rw [decide_eq_true rfl]
  exact q H (Same.refl H)
def Deeper (R : D → Prop) : D → Prop
  | .lst l => ∀ x ∈ l, R x
  | .tup l => ∀ x ∈ l, R x
  | .dic kvs => ∀ r ∈ kvs, R (.int r.2)
  | _ => True
/-- trees of a depth -/
def Fits : Nat → D → Prop
  | 0 => fun _ => False
  | n + 1 => Deeper (Fits n)
theorem ok_never {P : Program} {w : World} {K : PySem.W.Frag} {mg : Str → Option Value} {base : Heap} {CX : CXT} {k : Nat} {f : Addr} {fd : FuncData} {ps : List Str} : FnOk P w K mg base CX k f fd ps (fun _ _ _ _ => False) :=
  ⟨fun _ _ _ _ h => h.elim, fun _ _ _ _ _ _ _ _ _ _ _ _ _ h => h.elim⟩
/-- a while, with a word of one's own and a number that falls -/
theorem while_m {c : TT} {tb : TS} {D : Ends} {σ : L2.St} {H : Hp} (W : Nat → L2.St → Hp → Prop) (m0 : Nat) (h0 : W m0 σ H)
    (hs : ∀ m σ H, W m σ H → c σ H fun b H1 => if b = true then ∃ N : L2.St → Hp → Prop, (∀ σ' H', N σ' H' → ∃ m', m' < m ∧ W m' σ' H') ∧ tb { D with nx := N, ct := N, bk := D.nx } σ H1 else D.nx σ H1) : tWhile c tb D σ H := ⟨W, ⟨m0, h0⟩, hs⟩
section
variable {X : Cx}
/-- len of a text, a dict, a list or a tuple -/
theorem call_lenX : CallR X (.builtin "len") (fun xs H Q => (rLenS xs H Q ∨ ∃ a kvs, xs = [V.ref a] ∧ H a = some (.dK kvs) ∧ Q (.int (kvs.length : Nat)) H) ∨ rLenL X.K xs H Q) :=
  CallR.or (CallR.or call_len_str call_lenD) call_len_seq
end
/-- for k in d, the dict locked -/
theorem for_keysD {d : Addr} {o : Obj} {kvs : List (L2.Key × V)} {g : TG} {tb : TS} {D : Ends} {σ : L2.St} {H : Hp} (Pv : Nat → L2.St → Hp → Prop) (h0 : Pv 0 σ H) (hl : ∀ i σ H, i ≤ kvs.length → Pv i σ H → H d = some (.frz o (.dK kvs)))
    (hs : ∀ i k v σ H, kvs[i]? = some (k, v) → Pv i σ H → g (kV k) σ H fun σ2 H2 => tb { D with nx := Pv (i + 1), ct := Pv (i + 1), bk := D.nx } σ2 H2) (hd : ∀ σ H, Pv kvs.length σ H → D.nx σ H) :
    ∃ W : Nat → Nat → L2.St → Hp → Prop, (∃ m, W 0 m σ H) ∧ ∀ i m σ H, W i m σ H →
      ((Itk d o kvs).stop i H ∧ D.nx σ H) ∨ ((Itk d o kvs).go i H ∧ ∃ N : L2.St → Hp → Prop, (∀ σ' H', N σ' H' → ∃ m', m' < m ∧ W (i + 1) m' σ' H') ∧ ∀ v H', (Itk d o kvs).yld i H v H' → g v σ H' fun σ2 H2 => tb { D with nx := N, ct := N, bk := D.nx } σ2 H2) := by
  refine ⟨fun i m σ H => m = kvs.length - i ∧ i ≤ kvs.length ∧ Pv i σ H, ⟨kvs.length, by simp, Nat.zero_le _, h0⟩, ?_⟩
  rintro i m σ H ⟨rfl, hi, p⟩
  have q := hl i σ H hi p
  by_cases lt : i < kvs.length
  · refine .inr ⟨⟨q, lt⟩, Pv (i + 1), fun σ' H' p' => ⟨kvs.length - (i + 1), by omega, rfl, lt, p'⟩, fun v H' y => ?_⟩
    obtain ⟨rfl, k, u, e, rfl⟩ := y
    exact hs i k u σ H' e p
  · obtain rfl : i = kvs.length := by omega
    exact .inl ⟨⟨q, Nat.le_refl _⟩, hd σ H p⟩
/-- behind a lock all stands as before -/
theorem same_lock {H H' : Hp} {d : Addr} {o : Obj} {u : HO} (hd : H d = some u) (s : Same (upd H d (.frz o u)) H') : Same H (upd H' d u) := fun b x e => by
  by_cases q : b = d
  · rw [q] at e ⊢
    rw [hd] at e
    rw [upd_same, e]
  · rw [upd_ne q]
    exact s b x (by rw [upd_ne q]; exact e)
/-- what a dict of texts and numbers tells of a key that it has -/
theorem val_at : ∀ {kvs : List (Str × Int)} {i : Nat} {k : Str} {n : Int}, (kvs.map (·.1)).Nodup → kvs[i]? = some (k, n) → valV (kvs.map dkv) (Sum.inr k : L2.Key) = some (.int n)
  | [], i, k, n, _, e => by simp at e
  | r :: kvs, 0, k, n, _, e => by
    have e : r = (k, n) := by simpa using e
    subst e
    exact valV_pos rfl
  | r :: kvs, i + 1, k, n, nd, e => by
    have e : kvs[i]? = some (k, n) := by simpa using e
    obtain ⟨h1, h2⟩ := List.nodup_cons.mp (show (r.1 :: kvs.map (·.1)).Nodup from nd)
    have ne : ¬ (dkv r).1 = (Sum.inr k : L2.Key) := fun q => by
      have q : r.1 = k := Sum.inr.inj q
      exact h1 (List.mem_map.mpr ⟨(k, n), List.mem_of_getElem? e, q.symm⟩)
    exact (valV_neg ne).trans (val_at h2 e)
end TK
/-! Own toolkit, part t: a text times a number. -/
namespace TK
open PySem PySem.Spec PyProof.Rows L2
def rMulS : R2 := fun x y H Q => ∃ (z : Str) (n : Nat), x = .str z ∧ y = .int n ∧ z.length ≤ 1000 ∧ n ≤ 1000 ∧ ∀ r : Str, r.cps.toList = (List.replicate n z.cps.toList).flatten → Q (.str r) H
theorem fold_cps (z : Array Nat) : ∀ (n : Nat) (a : Array Nat), ((List.replicate n z).foldl (· ++ ·) a).toList = a.toList ++ (List.replicate n z.toList).flatten
  | 0, a => by simp
  | n + 1, a => by
    rw [List.replicate_succ, List.foldl_cons, fold_cps z n (a ++ z), List.replicate_succ, List.flatten_cons]
    simp
theorem op_mul_str {X : Cx} : OpR X (binaryOp .Mult) rMulS := by
  intro pins s σ H x y v u Q I rx ry h
  obtain ⟨z, n, rfl, rfl, hz, hn, q⟩ := h
  obtain ⟨t, rfl⟩ := rx
  obtain ⟨t', rfl⟩ := ry
  have hlen : z.length * n ≤ 1000000 := Nat.mul_le_mul hz hn
  refine PySem.P.mul_str (by rw [decide_eq_false (by omega), decide_eq_false (by omega)]; rfl) (fun h1 _ => ?_) (fun _ _ => ?_) ?_
  · have : (1000 : Int) ≤ (2 ^ 63 - 1) / (n : Int) := Int.le_ediv_of_mul_le (by omega) (by omega)
    omega
  · show (decide (z.length * (n : Int).toNat > sizeLine)) = false
    rw [Int.toNat_natCast, decide_eq_false_iff_not, sizeLine_eq]
    omega
  · by_cases h1 : (n : Int) < 1
    · rw [if_pos h1]
      have : n = 0 := by omega
      subst this
      exact ⟨by decide, .str Str.empty, H, I.tok _, ⟨_, rfl⟩, q _ rfl⟩
    · rw [if_neg h1]
      by_cases h2 : ((n : Int) == 1 || z.length == 0) = true
      · rw [if_pos h2]
        refine ⟨.str z, H, I, ⟨_, rfl⟩, q _ ?_⟩
        rcases Bool.or_eq_true_iff.mp h2 with e | e
        · have : n = 1 := by have := beq_iff_eq.mp e; omega
          subst this
          simp
        · have : z.cps.toList = [] := List.length_eq_zero_iff.mp (by rw [← len_cps]; exact beq_iff_eq.mp e)
          rw [this]
          simp
      · rw [if_neg h2]
        refine ⟨?_, .str _, H, I.tok _, ⟨_, rfl⟩, q _ ?_⟩
        · rw [len_cps, Int.toNat_natCast]
          show (((List.replicate n z.cps).foldl (· ++ ·) #[]).toList).length ≤ _
          rw [fold_cps, List.length_append, List.length_flatten, List.map_replicate, List.sum_replicate_nat, Nat.mul_comm, sizeLine_eq]
          rw [len_cps] at hlen
          show 0 + _ ≤ _
          omega
        · rw [Int.toNat_natCast]
          show ((List.replicate n z.cps).foldl (· ++ ·) #[]).toList = _
          rw [fold_cps]
          simp
end TK
namespace TK
open PySem PySem.Spec PyProof.Rows L2
/-! the rules that name the written part, told with it (within a comprehension) -/
section
variable {X : Cx} {K : PySem.W.Frag}
theorem ix_K (h : X.K = K := by rfl) : IxR X (rIxA K) := h ▸ ix_A
theorem op_addK (h : X.K = K := by rfl) : OpR X (binaryOp .Add) (rAddA K) := h ▸ op_addA
theorem call_lenK (h : X.K = K := by rfl) : CallR X (.builtin "len") (fun xs H Q => rLenS xs H Q ∨ rLenL K xs H Q) := h ▸ call_lenA
theorem op_inK (h : X.K = K := by rfl) : OpR X (compareOp .In) (fun x y H Q => rInSign x y H Q ∨ rInQ K x y H Q) := h ▸ op_inA
theorem op_ninK (h : X.K = K := by rfl) : OpR X (compareOp .NotIn) (fun x y H Q => rNinSign x y H Q ∨ rNinQ K x y H Q) := h ▸ op_ninA
theorem sl_K (h : X.K = K := by rfl) : SlR X (fun x l u H Q => rSlS x l u H Q ∨ rSlL K x l u H Q ∨ rSlT K x l u H Q) := h ▸ sl_A
end
end TK
namespace TK
open PySem PySem.Spec PyProof.Rows L2
/-- a new object: the heap with it as one letter (generalize e : upd H p _ = G) -/
theorem new_of {H G : Hp} {p : Addr} {o : HO} (e : upd H p o = G) (np : H p = none) : Same H G ∧ G p = some o := e ▸ ⟨same_new np, upd_same⟩
end TK
/-! Own toolkit, part d: own classes' special methods by the operators (len, in, [], + - and the like, ~). -/
namespace TK
open PySem PySem.Spec PyProof.Rows L2
section
variable {X : Cx} {CX : CXT} {k : Nat} {C f : Addr} {fd : FuncData} {ps : List Str} {sp : Sp} {E : XK} {pins : List (Addr × Obj)} {σ : L2.St} {H : Hp} {s : Shared}
theorem vref (p : Addr) : RelV (.ref p) (Value.ref p) := rfl
/-- a callee runs, deeper by one -/
theorem run_fn1 {A' : Around} (hA : A'.frames = X.A.frames) {Q : VK} {us : List Value} {vs : List V} (F : FnOk X.prog X.w X.K X.mg X.base CX k f fd ps sp) (hr : Room k A') (hb : Binds X.K fd ps []) (hx : Passes CX X E)
    (I : Inv X pins σ H s) (r : Vals vs us) (h : sp vs H Q E) : wpAny (model X.prog X.w) A' (call (.ref f) us) (EP X pins σ Q) X.xe s := by
  have hl : (us ++ []).length = ps.length := by rw [List.append_nil, ← r.length]; exact F.len _ _ _ _ h
  have e := I.env0
  have e1 : Env0 X.prog X.w X.K X.mg X.base A' X.stack s H := ⟨by rw [hA]; exact e.frames, e.mod, e.bs, e.bsz, e.funs, e.frf, e.hok, e.bare⟩
  have hbs := hb s us I.kIn hl
  rw [List.append_nil] at hbs
  refine wpAny_call (codeAny_mono (F.run A' X.stack s H ⟨us, []⟩ us vs Q E hr e1 hbs r h) fun r s' hq => ?_)
  cases r with
  | error e => exact hx pins σ H s e s' I hq
  | ok fl =>
    cases fl with
    | ret u => exact I.after hq
    | next => exact False.elim hq
    | brk => exact False.elim hq
    | cont => exact False.elim hq
theorem inst_at {a dx : Addr} {fs : List (Str × V)} (I : Inv X pins σ H s) (e : H a = some (.ins C dx fs)) : ∃ od, PySem.W.InstAt s.heap a (PySem.W.instObj C dx) C (some od) := by
  obtain ⟨mA, O, _⟩ := ins_get I.hok e
  obtain ⟨od, J, _⟩ := O.look
  exact ⟨od, J⟩
/-- a value of the layer is never NotImplemented -/
theorem cmp_back {Q : VK} {u : Value} {s' : Shared} (h : EP X pins σ Q u s') : PySem.W.CmpBack (EP X pins σ Q) u s' := by
  obtain ⟨v, H', I', rv, q⟩ := h
  cases v with
  | non => cases rv; exact ⟨.non, H', I', rfl, q⟩
  | bl b => cases rv; exact ⟨.bl b, H', I', rfl, q⟩
  | int i => obtain ⟨t, rfl⟩ := rv; exact ⟨.int i, H', I', ⟨t, rfl⟩, q⟩
  | str x => obtain ⟨t, rfl⟩ := rv; exact ⟨.str x, H', I', ⟨t, rfl⟩, q⟩
  | byt b => obtain ⟨t, rfl⟩ := rv; exact ⟨.byt b, H', I', ⟨t, rfl⟩, q⟩
  | flt b => obtain ⟨t, rfl⟩ := rv; exact ⟨.flt b, H', I', ⟨t, rfl⟩, q⟩
  | ref a => cases rv; exact ⟨.ref a, H', I', rfl, q⟩
  | ty n => cases rv; exact ⟨.ty n, H', I', rfl, q⟩
/-- len(o) -/
def rLenO (C : Addr) (sp : Sp) (E : XK) : List V → Hp → VK → Prop := fun xs H Q => ∃ p dx fs, xs = [.ref p] ∧ H p = some (.ins C dx fs) ∧ sp [.ref p] H (fun v H' => ∃ n : Int, v = .int n ∧ (0 ≤ n ∧ n < 2 ^ 63) ∧ Q (.int n) H') E
theorem call_lenO (m : Meth X.K C "__len__" f) (F : FnOk X.prog X.w X.K X.mg X.base CX k f fd ps sp) (hr : Room (k + 1) X.A) (hb : Binds X.K fd ps []) (hx : Passes CX X E) : CallR X (.builtin "len") (rLenO C sp E) := by
  intro pins s σ H xs us Q I rv h
  obtain ⟨p, dx, fs, rfl, ep, hs⟩ := h
  obtain ⟨u, rfl, ru⟩ := rv.one
  cases ru
  obtain ⟨od, J⟩ := inst_at I ep
  obtain ⟨m0, hF⟩ := I.fr
  refine PySem.W.len_K hF I.ok.mod.kin J m.at_ m.fn (wpAny_mono (run_fn1 (A' := X.A.in1) rfl F hr.in1 hb hx I (.cons (vref _) .nil) hs) (fun u s' z => ?_) fun _ _ z => z)
  obtain ⟨v, H', I', rv, n, rfl, hn, q⟩ := z
  obtain ⟨t, rfl⟩ := rv
  exact ⟨hn, .int n, H', I'.tok _, ⟨_, rfl⟩, q⟩
/-- v in o, v not in o -/
def rInO (C : Addr) (sp : Sp) (E : XK) (g : Bool → Bool) : R2 := fun x y H Q => ∃ p dx fs, y = .ref p ∧ H p = some (.ins C dx fs) ∧ sp [.ref p, x] H (fun v H' => ∃ b : Bool, v = .bl b ∧ Q (.bl (g b)) H') E
theorem op_inO (m : Meth X.K C "__contains__" f) (F : FnOk X.prog X.w X.K X.mg X.base CX k f fd ps sp) (hr : Room k X.A) (hb : Binds X.K fd ps []) (hx : Passes CX X E) : OpR X (compareOp .In) (rInO C sp E id) := by
  intro pins s σ H x y v u Q I rx ry h
  obtain ⟨p, dx, fs, rfl, ep, hs⟩ := h
  cases ry
  obtain ⟨od, J⟩ := inst_at I ep
  obtain ⟨m0, hF⟩ := I.fr
  refine PySem.W.in_K hF I.ok.mod.kin J m.at_ m.fn (wpAny_mono (run_fn1 (A' := X.A) rfl F hr hb hx I (.cons (vref _) (.cons rx .nil)) hs) (fun u s' z => ?_) fun _ _ z => z)
  obtain ⟨v, H', I', rv, b, rfl, q⟩ := z
  cases rv
  exact wpAny_pure ⟨.bl b, H', I', rfl, q⟩
theorem op_ninO (m : Meth X.K C "__contains__" f) (F : FnOk X.prog X.w X.K X.mg X.base CX k f fd ps sp) (hr : Room k X.A) (hb : Binds X.K fd ps []) (hx : Passes CX X E) : OpR X (compareOp .NotIn) (rInO C sp E not) := by
  intro pins s σ H x y v u Q I rx ry h
  obtain ⟨p, dx, fs, rfl, ep, hs⟩ := h
  cases ry
  obtain ⟨od, J⟩ := inst_at I ep
  obtain ⟨m0, hF⟩ := I.fr
  refine PySem.W.notIn_K hF I.ok.mod.kin J m.at_ m.fn (wpAny_mono (run_fn1 (A' := X.A) rfl F hr hb hx I (.cons (vref _) (.cons rx .nil)) hs) (fun u s' z => ?_) fun _ _ z => z)
  obtain ⟨v, H', I', rv, b, rfl, q⟩ := z
  cases rv
  exact wpAny_pure ⟨.bl (!b), H', I', rfl, q⟩
/-- o[i] -/
def rDun (C : Addr) (sp : Sp) (E : XK) : R2 := fun x y H Q => ∃ p dx fs, x = .ref p ∧ H p = some (.ins C dx fs) ∧ sp [.ref p, y] H Q E
theorem pe_ixO {a b : Expr} {ta tb : TE} {pos : Pos} (m : Meth X.K C "__getitem__" f) (hfn : PySem.W.fnIn X.K f = true) (F : FnOk X.prog X.w X.K X.mg X.base CX k f fd ps sp) (hr : Room (k + 1) X.A) (hb : Binds X.K fd ps []) (hx : Passes CX X E)
    (ha : PE X a ta) (hi : PE X b tb) (hs : ∀ v u, subscripted b true v u = runValue (.builtin "lifetime.subscript" ⟨[v, u], []⟩) := by intro _ _; rfl) : PE X (.Subscript a b pos) (tOp (rDun C sp E) ta tb) := by
  refine ⟨fun pins s σ H Q I h => ?_⟩
  refine Subscript_ (binT ha hi I h fun v u s2 x y H2 I2 rx ry q => ?_)
  obtain ⟨p, dx, fs, rfl, ep, hq⟩ := q
  cases rx
  obtain ⟨od, J⟩ := inst_at I2 ep
  obtain ⟨m0, hF⟩ := I2.fr
  exact PySem.W.sub_K hF I2.ok.mod.kin J m.at_ hfn m.fn (run_fn1 (A' := X.A.in1) rfl F hr.in1 hb hx I2 (.cons (vref _) (.cons ry .nil)) hq) (hs _ _)
/-- what an own class and a built-in type are to an operator -/
def binTB (K : PySem.W.Frag) (C : Addr) (nm T : String) : Bool :=
  PySem.W.selfFirst K C && (match PySem.W.findIn K (.ref C) (dunderR nm) with | some none => true | some (some (.ref _)) => true | _ => false) &&
  (PySem.W.findIn K (.type T) (PySem.dunder nm)).isSome && (PySem.W.findIn K (.type T) (dunderR nm)).isSome && PySem.W.subIn K (.type T) (.ref C) == some false
def rDunT (C : Addr) (T : String) (sp : Sp) (E : XK) : R2 := fun x y H Q => ∃ p dx fs, x = .ref p ∧ H p = some (.ins C dx fs) ∧ (∀ u, RelV y u → typeOf u = pure (.type T)) ∧ sp [.ref p, y] H Q E
theorem op_ownT {op : Operator} {T : String} (m : Meth X.K C (PySem.dunder op.info.2) f) (hB : binTB X.K C op.info.2 T = true) (F : FnOk X.prog X.w X.K X.mg X.base CX k f fd ps sp) (hr : Room k X.A) (hb : Binds X.K fd ps []) (hx : Passes CX X E) :
    OpR X (binaryOp op) (rDunT C T sp E) := by
  intro pins s σ H x y v u Q I rx ry h
  obtain ⟨p, dx, fs, rfl, ep, hT, hs⟩ := h
  cases rx
  obtain ⟨od, J⟩ := inst_at I ep
  obtain ⟨m0, hF⟩ := I.fr
  unfold binTB at hB
  simp only [Bool.and_eq_true, beq_iff_eq] at hB
  obtain ⟨⟨⟨⟨h1, h2⟩, h3⟩, h4⟩, h5⟩ := hB
  obtain ⟨fo, e3⟩ := Option.isSome_iff_exists.mp h3
  obtain ⟨ro, e4⟩ := Option.isSome_iff_exists.mp h4
  obtain ⟨rc, e2, p2⟩ : ∃ rc, PySem.W.findIn X.K (.ref C) (dunderR op.info.2) = some rc ∧ (rc = none ∨ ∃ g : Addr, rc = some (.ref g)) := by
    cases q : PySem.W.findIn X.K (.ref C) (dunderR op.info.2) with
    | none => rw [q] at h2; cases h2
    | some rc =>
      rw [q] at h2
      cases rc with
      | none => exact ⟨_, rfl, .inl rfl⟩
      | some v => cases v <;> first | exact ⟨_, rfl, .inr ⟨_, rfl⟩⟩ | cases h2
  exact PySem.W.ksp_binT hF I.ok.mod.kin J (hT _ ry) h1 m.at_ m.fn e2 p2 e3 e4 h5 (wpAny_mono (run_fn1 (A' := X.A) rfl F hr hb hx I (.cons (vref _) (.cons ry .nil)) hs) (fun _ _ z => cmp_back z) fun _ _ z => z)
/-- o op= y -/
theorem ip_own {op : Operator} (m : Meth X.K C (dunderI op.info.2) f) (hc : PySem.W.selfFirst X.K C = true) (F : FnOk X.prog X.w X.K X.mg X.base CX k f fd ps sp) (hr : Room k X.A) (hb : Binds X.K fd ps []) (hx : Passes CX X E) : PIp X op (rDun C sp E) := by
  intro pins s σ H x y v u Q I rx ry h
  obtain ⟨p, dx, fs, rfl, ep, hs⟩ := h
  cases rx
  obtain ⟨od, J⟩ := inst_at I ep
  obtain ⟨m0, hF⟩ := I.fr
  exact PySem.W.ksp_inplace hF I.ok.mod.kin J hc m.at_ m.fn (wpAny_mono (run_fn1 (A' := X.A) rfl F hr hb hx I (.cons (vref _) (.cons ry .nil)) hs) (fun _ _ z => cmp_back z) fun _ _ z => z)
/-- ~o -/
def rDun1 (C : Addr) (sp : Sp) (E : XK) : V → Hp → VK → Prop := fun x H Q => ∃ p dx fs, x = .ref p ∧ H p = some (.ins C dx fs) ∧ sp [.ref p] H Q E
theorem un_invO (m : Meth X.K C "__invert__" f) (F : FnOk X.prog X.w X.K X.mg X.base CX k f fd ps sp) (hr : Room k X.A) (hb : Binds X.K fd ps []) (hx : Passes CX X E) : UnR X (unaryOp .Invert) (rDun1 C sp E) := by
  intro pins s σ H x v Q I rx h
  obtain ⟨p, dx, fs, rfl, ep, hs⟩ := h
  cases rx
  obtain ⟨od, J⟩ := inst_at I ep
  obtain ⟨m0, hF⟩ := I.fr
  exact PySem.W.ksp_inv hF I.ok.mod.kin J m.at_ m.fn (run_fn1 (A' := X.A) rfl F hr hb hx I (.cons (vref _) .nil) hs)
end
end TK
/-! Own toolkit, part e: iter(t) of a tuple, loops over own classes whose __iter__ gives such an iterator. -/
namespace TK
open PySem PySem.Spec PyProof.Rows L2
/-- at it an iterator over the tuple at l, not begun -/
def TIt (l it : Addr) : HO := .ext fun h => h.IsTupleIter it l 0
/-- a def's promise that knows how many objects there were -/
structure FnS (P : Program) (w : World) (K : PySem.W.Frag) (mg : Str → Option Value) (base : Heap) (CX : CXT) (k : Nat) (f : Addr) (fd : FuncData) (ps : List Str) (sp : Nat → Sp) : Prop where
  many : ∀ n vs H Q E, sp n vs H Q E → vs.length = ps.length
  goes : ∀ (A : Around) (outer : List Env) (s : Shared) (H : Hp) (args : Args) (us : List Value) (vs : List V) (Q : VK) (E : XK), Room k A → Env0 P w K mg base A outer s H → BindsTo s fd args (ps.zip us) → Vals vs us →
    sp s.heap.objs.size vs H Q E → codeAny (model P w) A (.call (.ref f) args) (CR CX outer P w H s Q E) s
theorem fnS_ok {CX : CXT} {P : Program} {w : World} {K : PySem.W.Frag} {mg : Str → Option Value} {base : Heap} {N ps : List Str} {k : Nat} {f : Addr} {fd : FuncData} {x qual : Str} {params : Arguments} {body : List Stmt} {scope : Scope} {dvs : List V} {kws : List (Str × V)}
    {sp : Nat → Sp} (F : FunD K x qual params body scope dvs kws f fd) (S : FnScope N ps scope) (hlen : ∀ n vs H Q E, sp n vs H Q E → vs.length = ps.length)
    (walk : ∀ (cdv : Value) (A : Around) (outer : List Env) (s : Shared) (H : Hp) (vs : List V) (Q : VK) (E : XK), Room k (A.deeper (envOfC qual scope s.heap.objs.size f cdv)) → sp s.heap.objs.size vs H Q E →
      ∃ t, PSs (cxOf CX P w K mg base N qual scope f cdv A outer s H E) body t ∧ t { nx := fun _ H' => Q .non H', rt := Q } (start N vs) H) : FnS P w K mg base CX (k + 1) f fd ps sp := by
  obtain ⟨oc, od, dV, kV, doc, pm, an, cdv, ct, osl, rfl, look, cod, _, _⟩ := F.ex
  constructor
  · exact hlen
  intro A outer s H args us vs Q E room env bnd rel says
  have inK : K.In s.heap := env.mod.kin.keeps fun b o z => (env.bs b o z).1
  have long := hlen _ _ _ _ _ says
  have kinds : ∀ y ∈ ps.zip us, scope.names.lookup y.1 = some .local ∨ (scope.names.lookup y.1 = some .cell ∧ ((cellsFrom (s.heap.objs.size + 1) scope.names []).lookup y.1).isSome = true) := fun y hy =>
    (S.par y.1 (List.of_mem_zip (a := y.1) (b := y.2) hy).1).imp id fun z => ⟨z, PySem.W.cellsFrom_some _ _ _ (.inl z)⟩
  refine codeAny_call_function room.depth (inK _ _ look) rfl S.co S.gen rfl (PySem.W.codeRec_of inK cod) (bnd _ _ _ _ ?_)
  refine wpAny_newFunctionEnv_cells S.kind kinds fun env' same s1 made => ?_
  cases same
  have nolim : s.heap.NoLimit := env.mod.nolimit.keeps fun b o z => (env.bs b o z).1
  refine ⟨nolim.keeps made.toInCall.keep, codeAny_func ?_⟩
  obtain ⟨t, derived, reads⟩ := walk cdv A outer s H vs Q E (room.deeper _) says
  have J0 : Inv (cxOf CX P w K mg base N qual scope f cdv A outer s H E) [] (start N vs) H s1 := inv_start S room.hd env long rel made
  refine wpAny_mono (derived.run [] s1 (start N vs) H _ J0 reads) (fun fl s2 z => ?_) fun _ _ z => z
  have back : ∀ {τ : L2.St} {G : Hp} {v : V} {u : Value}, Inv (cxOf CX P w K mg base N qual scope f cdv A outer s H E) [] τ G s2 → RelV v u → Q v G → CE outer P w H s Q u s2 :=
    fun {τ G v u} J rv q => ⟨v, G, J.os, J.bare, J.base, J.hok, rv, q⟩
  cases fl with
  | ret u => exact let ⟨v, _, G, J, rv, q⟩ := z; back J rv q
  | next => exact let ⟨_, G, J, q⟩ := z; back (v := V.non) (u := Value.none) J rfl q
  | brk => exact let ⟨_, _, _, q⟩ := z; q.elim
  | cont => exact let ⟨_, _, _, q⟩ := z; q.elim
section
variable {X : Cx} {CX : CXT} {k : Nat} {C f : Addr} {fd : FuncData} {ps : List Str} {E : XK} {pins : List (Addr × Obj)} {σ : L2.St} {H : Hp} {s : Shared}
theorem tit_ok {P : Program} {w : World} {l it : Addr} {h : Heap} (e : h.IsTupleIter it l 0) : ObjOk P w H h it (TIt l it) :=
  ⟨e, let ⟨o, ho, _⟩ := e; ⟨o, ho⟩, fun h1 h2 q kp => let ⟨o, ho, hc, hd⟩ := q; ⟨o, kp o ho, hc, hd⟩⟩
/-- iter(t): a new iterator -/
def rIterT (K : PySem.W.Frag) (n : Nat) : List V → Hp → VK → Prop := fun xs H Q => ∃ (l : Addr) (zs : List V), xs = [.ref l] ∧ SqT K H l zs ∧ ∀ it, H it = none → n ≤ it → Q (.ref it) (upd H it (TIt l it))
theorem call_iterT : CallR X (.builtin "iter") (rIterT X.K X.s_0.heap.objs.size) := by
  intro pins s σ H xs us Q I r h
  obtain ⟨l, zs, rfl, hq, q⟩ := h
  obtain rfl := Vals.ref1 r
  obtain ⟨its, rv, pl, hz⟩ := I.tuple hq
  refine Calls.call_function_entry (by decide +kernel) (by decide +kernel) PySem.W.kdk_entry_iter (PySem.W.kdk_args_iter _) ?_
  unfold Builtin.«iter»
  refine wpAny_bind (m := someArgs "iter" 1 2 _) (wpAny_of_eq (a := [Value.ref l]) (by first | rfl | kernel_rfl!) ?_)
  show wpAny _ _ (pyIter (.ref l) >>= _) _ _ _
  refine wpAny_bind (wpAny_pyIter_tuple (show s.heap.IsTuple l its.toArray from pl) ?_)
  exact wpAny_pure ⟨_, rfl, .ref s.heap.objs.size, _, I.laid (t' := s.toks) (fun b u e => Heap.get?_push_of_some _ e) (Nat.le_refl _) (tit_ok ⟨_, Heap.get?_push_size _ rfl, rfl, rfl⟩), rfl, q _ (I.hok.fresh (Nat.le_refl _)) I.sz⟩
/-- what an __iter__ promises that gives iter of the tuple at l -/
def spIter (C : Addr) (K : PySem.W.Frag) (g : Str) : Nat → Sp := fun n vs H Q _ => ∃ (p dx l : Addr) (fs : List (Str × V)) (zs : List V), vs = [.ref p] ∧ H p = some (.ins C dx fs) ∧ fs.lookup g = some (.ref l) ∧ SqT K H l zs ∧ ∀ it, H it = none → n ≤ it → Q (.ref it) (upd H it (TIt l it))
theorem next_tit {P : Program} {w : World} {A : Around} {E : Value → Shared → Prop} {l it : Addr} {Q : Value → Shared → Prop} (e : s.heap.IsTupleIter it l 0) (h : Q (.ref it) s) : PySem.W.OwitIt (model P w) A Q E (.ref it) s := by
  unfold PySem.W.OwitIt
  exact wpAny_specialOf e.typeIs PySem.F.slot_tuple_iterator_next.lookup h
/-- for x in o: o an object whose __iter__ gives iter(o.g), a tuple -/
def iOwn (K : PySem.W.Frag) (C : Addr) (g : Str) (te : TE) : TI := fun σ H R => te σ H fun x H1 => ∃ (p dx l : Addr) (fs : List (Str × V)) (zs : List V), x = .ref p ∧ H1 p = some (.ins C dx fs) ∧ fs.lookup g = some (.ref l) ∧ SqT K H1 l zs ∧ R (Itt K l) H1
theorem pi_own {tg e : Expr} {te : TE} {g : Str} (m : Meth X.K C "__iter__" f) (F : FnS X.prog X.w X.K X.mg X.base CX k f fd ps (spIter C X.K g)) (hr : Room k X.A) (hb : Binds X.K fd ps []) (hx : Passes CX X E) (he : PE X e te) : PI X tg e (iOwn X.K C g te) := by
  refine ⟨fun pins s σ H R I h => thn (he.run pins s σ H _ I h) fun v s1 ⟨x, H1, I1, r1, q1⟩ => ?_⟩
  obtain ⟨p, dx, l, fs, zs, rfl, ep, lk, hq, q⟩ := q1
  cases r1
  obtain ⟨od, J⟩ := inst_at I1 ep
  obtain ⟨m0, hF⟩ := I1.fr
  refine PySem.W.owit_iter hF I1.ok.mod.kin J m.at_ m.fn ?_
  have says : spIter C X.K g s1.heap.objs.size [.ref p] H1 (fun v H2 => ∃ it, v = .ref it ∧ H1 it = none ∧ s1.heap.objs.size ≤ it ∧ H2 = upd H1 it (TIt l it)) E := ⟨p, dx, l, fs, zs, rfl, ep, lk, hq, fun it hn hs => ⟨it, rfl, hn, hs, rfl⟩⟩
  have hl : ([Value.ref p] ++ []).length = ps.length := by
    have := F.many _ _ _ _ _ says
    simpa using this
  have hbs := hb s1 [.ref p] I1.kIn hl
  rw [List.append_nil] at hbs
  refine wpAny_call (codeAny_mono (F.goes X.A X.stack s1 H1 ⟨[.ref p], []⟩ [.ref p] [.ref p] _ E hr I1.env0 hbs (.cons rfl .nil) says) fun r s2 z => ?_)
  cases r with
  | error e => exact hx pins σ H1 s1 e s2 I1 z
  | ok fl =>
    cases fl with
    | ret u =>
      obtain ⟨v, H2, I2, rv, it, rfl, hn, hs, rfl⟩ := I1.after z
      cases rv
      have tit : s2.heap.IsTupleIter it l 0 := (I2.hok it _ upd_same).1
      have I3 := ItX.inv_drop I2 upd_same
      rw [ItX.dropH_upd hn] at I3
      refine next_tit tit ⟨it, [it], _, _, H1, rfl, I3, turn_tuple l it, tit, fun b hb => ?_, q⟩
      cases List.mem_singleton.mp hb
      exact I1.fpOk hs hn
    | next => exact False.elim z
    | brk => exact False.elim z
    | cont => exact False.elim z
end
end TK
/-! Own toolkit, part f: own exceptions without fields; exceptions whose __init__ is super().__init__(x) over an own one. -/
namespace TK
open PySem PySem.Spec PyProof.Rows L2 NdefX
/-- what super() of the class at D finds above, for an exception of the class at C: the def at g -/
structure SupU (K : PySem.W.Frag) (C D g : Addr) : Prop where
  mro : PySem.W.mroIn K C (.ref D) = some true
  above : PySem.W.ks_superIn K C D "__init__" = some (some (.ref g))
  ty : PySem.W.typeIn K (.ref g) = some (.type "function")
  fi : PySem.W.fnIn K g = true
  opq : PySem.W.nsIn K PySem.cStatics "thirdparty.any" = some none
section
variable {X : Cx} {CX : CXT} {pins : List (Addr × Obj)} {σ : L2.St} {H : Hp} {s : Shared} {a C D cc f g : Addr} {F : NF} {fd gd : FuncData} {k : Nat} {ps : List Str} {sp : Sp} {E : XK}
/-- super().__init__(e, ..), where an own __init__ is found -/
theorem sup_up {p0 p1 p2 p3 p4 : Pos} {e : Expr} {es : List Expr} {ta : TA} {D' : Ends} {pl : Sem Bool} (S : SupF X.prog X.K X.mg f fd F D cc) (V : SupU X.K C D g)
    (G : FnOk X.prog X.w X.K X.mg X.base CX k g gd ps sp) (hr : Room k X.A) (hb : Binds X.K gd ps []) (hx : Passes CX X E)
    (he : X.env = envF F f X.env.locals) (hN : X.N[0]? = some ("self" : Str)) (hks : F.scope.names.lookup ("super" : Str) = some .globalImplicit) (hkc : F.scope.names.lookup ("__class__" : Str) = some .free) (hsl : F.scope.names.lookup ("self" : Str) = some .local)
    (hh : (F.params.posonlyargs ++ F.params.args).head?.map (·.arg) = some ("self" : Str))
    (I : Inv X pins σ H s) (h0 : σ[0]? = some (some (.ref a))) (ha : H a = some (exo a C none)) (hp : PA X (e :: es) ta)
    (h : ta σ H fun vs H1 => sp (.ref a :: vs) H1 (fun _ H2 => D'.nx σ H2) E)
    (hc : eval (.Call (.Attribute (.Call (.Name "super" p0) [] [] p1) "__init__" p2) (e :: es) [] p3) X.env = (do
      let ov ← attributeBase (.Call (.Name "super" p0) [] [] p1) "__init__" X.env (eval (.Call (.Name "super" p0) [] [] p1) X.env)
      standAt p2.atName
      let (f, first) ← holding [ov] (getMethod ov "__init__" pl)
      callWith p3 f first (backTo p3 (starEach (e :: es) X.env)) []) := by rfl)
    (hs : starEach (e :: es) X.env = (false, eval e X.env) :: starEach es X.env := by rfl) (hpl : (backTo p3 (starEach es X.env)).any (·.1) = false := by rfl) (hsw : swapsWith (.Call (.Attribute (.Call (.Name "super" p0) [] [] p1) "__init__" p2) (e :: es) [] p3) none p4.line X.env = pure false := by rfl) :
    _root_.PySem.wpAt (model X.prog X.w) X.A (.func F.body X.env) (exec (.Expr (.Call (.Attribute (.Call (.Name "super" p0) [] [] p1) "__init__" p2) (e :: es) [] p3) p4) X.env) (SP X pins D') X.xe s := by
  obtain ⟨oc, od, osl, doc, pm, ctv, rfl, lk⟩ := S.fn
  obtain ⟨ccl, cdd, cvs, ccs, file, tf, lc, hvs, hfile⟩ := S.file
  obtain ⟨cl, cld, csl, lcell⟩ := S.cell
  obtain ⟨cdD, hD⟩ := S.clsD
  have XK := I.kIn
  obtain ⟨oD, hD1, hD2⟩ : ∃ oD, s.heap.get? D = some oD ∧ oD.data = .cls cdD := by
    unfold PySem.W.clsIn at hD
    split at hD
    · rename_i c d cd' sl ho
      cases hD
      exact ⟨_, XK _ _ ho, rfl⟩
    · cases hD
  obtain ⟨t1, ha1⟩ := exo_at I.hok ha
  obtain ⟨m, hns, hl⟩ := I.loc
  obtain ⟨u, ru, lu⟩ := hl 0 ("self" : Str) _ hN h0 (.inl (by rw [he]; exact hsl))
  obtain rfl : u = Value.ref a := ru
  have hk : X.env.scope.kind = .function := I.ok.kind
  have hm : m ("self" : Str) = some (.ref a) := by
    rcases lu with ⟨_, hm⟩ | ⟨hk2, _⟩
    · exact hm
    · have e1 : X.env.kindOf ("self" : Str) = some .local := by rw [he]; exact hsl
      rw [e1] at hk2
      rcases hk2 with z | z <;> cases z
  obtain ⟨ar, har, harg⟩ := Option.map_eq_some_iff.mp hh
  have hfu : X.env.func = some f := by rw [he]
  have hco : X.env.code = .ref F.c := by rw [he]
  have k1 : X.env.kindOf ("super" : Str) = some .globalImplicit := by rw [he]; exact hks
  have k2 : X.env.kindOf ("__class__" : Str) = some .free := by rw [he]; exact hkc
  have k3 : X.env.kindOf ("self" : Str) = some .local := by rw [he]; exact hsl
  have k4 : X.env.cells.lookup ("__class__" : Str) = some cc := by rw [he]; show F.cl.lookup _ = _; rw [S.cl]; rfl
  obtain ⟨mb, hb1, hb2⟩ := I.mod.blt
  have lf := XK _ _ lk
  have lcd := XK _ _ lc
  have lcc := XK _ _ lcell
  obtain ⟨hh', gg, d, tk, os⟩ := s
  refine ks_wpAt_Expr_any ?_ I.quiet hsw
  refine ks_wpAt_MethodCall ?_ hc
  refine ks_wpAt_super_base (env := X.env) k1 k2 rfl hfu lf rfl har hco lcd rfl hvs hfile S.top ?_
  refine PySem.W.ks_loadName_global hk k1 (Calls.loadGlobal_builtin (env := X.env) (by rw [I.ok.glob]; exact I.mod.glob.keeps I.bk) S.sup (by rw [I.ok.blt]; exact hb1.keeps I.bk) ((hb2 _ (by decide +kernel)).trans (by decide +kernel : bootBuiltins "super" = some (.type "super"))) ⟨rfl, ?_⟩)
  refine wpAny_loadName_free hk k2 k4 ⟨_, lcc, rfl⟩ ?_
  rw [harg]
  refine wpAny_loadName_local hk k3 hns hm ?_
  refine ks_wpAny_isType_cls hD1 hD2 ⟨rfl, ?_⟩
  refine ks_wpAny_call_super hD1 hD2 ha1 rfl (fun c e => by cases e) (PySem.W.looks_mroIn XK V.mro) (fun h1 eso kso => ?_)
  have I1 : Inv X pins σ H ⟨h1, gg, d, tk, os⟩ := I.kept (t' := tk) kso
  cases hcd : PySem.W.clsIn X.K C with
  | none =>
    have z := V.above
    unfold PySem.W.ks_superIn at z
    rw [hcd] at z
    cases z
  | some cd =>
    have z := V.above
    unfold PySem.W.ks_superIn at z
    rw [hcd] at z
    have XK1 := I1.kIn
    have ia : (⟨h1, gg, d, tk, os⟩ : Shared).heap.get? a = some (PySem.W.excObj C t1 none .none) := kso _ _ ha1
    obtain ⟨ofn, hof, hofc⟩ : ∃ o, h1.get? g = some o ∧ o.cls = .type "function" := by
      have ht : (X.K.lookup g).map (·.cls) = some (.type "function") := V.ty
      cases q : X.K.lookup g with
      | none => rw [q] at ht; cases ht
      | some o => rw [q] at ht; exact ⟨o, XK1 _ _ q, Option.some.inj ht⟩
    refine ks_wpAny_getMethod_super eso (PySem.W.looks_opaque XK1 V.opq) (l₀ := cd.mro) (fun A Q E s k q => wpAny_bind ((PySem.W.looks_clsIn XK1 hcd) A _ E s k (wpAny_pure q))) rfl XK1 z hof hofc
      (PySem.W.ks_ne XK1 (show PySem.W.InstAt h1 a (PySem.W.excObj C t1 none .none) C none from ⟨ia, rfl, rfl, trivial⟩) hcd) rfl ?_
    have kq : ∀ b o, h1.get? b = some o → (h1.push (PySem.W.methodObj (.ref g) (.ref a))).get? b = some o := fun b o e => Heap.get?_push_of_some _ e
    have gq : (h1.push (PySem.W.methodObj (.ref g) (.ref a))).get? h1.objs.size = some (PySem.W.methodObj (.ref g) (.ref a)) := Heap.get?_push_at rfl rfl
    have nq : H h1.objs.size = none := I1.hok.fresh (Nat.le_refl _)
    have I2 : Inv X pins σ H ⟨h1.push (PySem.W.methodObj (.ref g) (.ref a)), gg, d, tk + 1, os⟩ := I1.kept (t' := tk + 1) kq
    have I3 : Inv X ((h1.objs.size, PySem.W.methodObj (.ref g) (.ref a)) :: pins) σ H ⟨h1.push (PySem.W.methodObj (.ref g) (.ref a)), gg, d, tk + 1, os⟩ := I2.pins_of fun p hp => by
      rcases List.mem_cons.mp hp with rfl | z
      · exact ⟨gq, nq, Nat.ne_of_gt I1.lt, I1.nofs (Nat.le_refl _), fun v e => by cases e⟩
      · exact I2.pin p (List.mem_append_right _ z)
    refine PySem.W.callWith_M (h₀ := X.base) (L := X.env.locals) (first := []) (news := [(h1.objs.size, PySem.W.methodObj (.ref g) (.ref a))]) I1.ok.mod.kin (fun p hp => ?_) List.mem_cons_self V.fi (thn (hp.run p3 _ _ σ H _ I3 h) fun us s2 q => ?_) hs hpl
    · obtain rfl : p = (h1.objs.size, PySem.W.methodObj (.ref g) (.ref a)) := List.mem_singleton.mp hp
      exact ⟨gq, Nat.ne_of_gt I1.lt, Heap.get?_none_of_le (Nat.le_trans I.ok.bsz I1.sz)⟩
    · obtain ⟨vs, H1, I4, rv, q1⟩ := q
      have hq := (I4.pin (h1.objs.size, PySem.W.methodObj (.ref g) (.ref a)) (List.mem_append_right _ List.mem_cons_self)).1
      have I5 : Inv X pins σ H1 s2 := I4.pins_of fun p hp => I4.pin p (List.mem_append_right _ (List.mem_cons_of_mem _ hp))
      refine ⟨⟨hq, I4.kIn⟩, wpAny_call (ks_codeAny_call_bound hq ?_)⟩
      have rv1 : Vals (.ref a :: vs) (Value.ref a :: us) := .cons (vref _) rv
      have hl1 : ((Value.ref a :: us) ++ []).length = ps.length := by rw [List.append_nil, ← rv1.length]; exact G.len _ _ _ _ q1
      have hbs := hb s2 (Value.ref a :: us) I5.kIn hl1
      rw [List.append_nil] at hbs
      refine codeAny_mono (G.run X.A X.stack s2 H1 ⟨Value.ref a :: us, []⟩ (Value.ref a :: us) (.ref a :: vs) _ E hr I5.env0 hbs rv1 q1) fun r s3 hq => ?_
      cases r with
      | error e => exact hx pins σ H1 s2 e s3 I5 hq
      | ok fl =>
        cases fl with
        | ret u =>
          obtain ⟨v, H2, I6, _, q2⟩ := I5.after hq
          exact ⟨σ, H2, I6, q2⟩
        | next => exact False.elim hq
        | brk => exact False.elim hq
        | cont => exact False.elim hq
end
section
variable {CX : CXT} {P : Program} {w : World} {K : PySem.W.Frag} {mg : Str → Option Value} {base : Heap} {F : NF} {fd gd : FuncData} {f g D D2 cc : Addr} {k : Nat} {p0 p1 p2 p3 p4 r0 : Pos} {f1 : Str} {fs qs : List Str}
/-- the promise of such an __init__: that of the one above -/
def spU (K : PySem.W.Frag) (D g D2 : Addr) (fs : List Str) : Sp := fun vs H Q E => ∃ (a C : Addr) (xs : List V), vs = .ref a :: xs ∧ xs.length = fs.length ∧ H a = some (exo a C none) ∧ SupU K C D g ∧ spI K D2 fs vs H Q E
/-- def __init__(self, x): super().__init__(x) -/
theorem fn_initU (S : SupF P K mg f fd F D cc) (hS : NScope ["self", f1, "__class__"] ["self", f1] ["__class__"] F.scope)
    (hbd : F.body = [.Expr (.Call (.Attribute (.Call (.Name "super" p0) [] [] p1) "__init__" p2) [.Name f1 r0] [] p3) p4])
    (hks : F.scope.names.lookup ("super" : Str) = some .globalImplicit) (hh : (F.params.posonlyargs ++ F.params.args).head?.map (·.arg) = some ("self" : Str))
    (hd1 : (f1 == ("__debug__" : Str)) = false) (hc1 : (f1 == ("__classdict__" : Str)) = false)
    (G : FnOk P w K mg base CX k g gd qs (spI K D2 [f1])) (hb : Binds K gd qs [])
    (hx : ∀ (A : Around) (outer : List Env) (s : Shared) (H : Hp) (E : XK), Passes CX (ncx CX P w K mg base ["self", f1, "__class__"] F f A outer s H E) (fun _ _ _ => False))
    (hc : ∀ env : Env, ∃ pl, eval (.Call (.Attribute (.Call (.Name "super" p0) [] [] p1) "__init__" p2) [.Name f1 r0] [] p3) env = (do
      let ov ← attributeBase (.Call (.Name "super" p0) [] [] p1) "__init__" env (eval (.Call (.Name "super" p0) [] [] p1) env)
      standAt p2.atName
      let (f, first) ← holding [ov] (getMethod ov "__init__" pl)
      callWith p3 f first (backTo p3 (starEach [.Name f1 r0] env)) []) := by exact fun env => ⟨_, rfl⟩)
    (hs : ∀ env : Env, starEach [.Name f1 r0] env = (false, eval (.Name f1 r0) env) :: starEach [] env := by exact fun env => rfl) (hpl : ∀ env : Env, (backTo p3 (starEach [] env)).any (·.1) = false := by exact fun env => rfl)
    (hsw : ∀ env : Env, swapsWith (.Call (.Attribute (.Call (.Name "super" p0) [] [] p1) "__init__" p2) [.Name f1 r0] [] p3) none p4.line env = pure false := by exact fun env => rfl) :
    FnOk P w K mg base CX (k + 1) f fd ["self", f1] (spU K D g D2 [f1]) := by
  have hsl := hS.par "self" (by simp)
  have hfl := hS.par f1 (by simp)
  refine ⟨fun vs H Q E h => ?_, fun A outer s H args us vs Q E hr e0 hbi r hsp => ?_⟩
  · obtain ⟨a, C, xs, rfl, hl, _⟩ := h
    simp [hl]
  obtain ⟨a, C, xs, rfl, hl, ha, hV, hI⟩ := hsp
  obtain ⟨x, rfl⟩ : ∃ x, xs = [x] := by
    match xs, hl with
    | [x], _ => exact ⟨x, rfl⟩
  obtain ⟨oc, od, osl, doc, pm, ctv, rfl, lk⟩ := id S.fn
  obtain ⟨cl, cld, csl, lcell⟩ := S.cell
  have hK : K.In s.heap := fun b o q => (e0.bs b o (e0.mod.kin b o q)).1
  have lim : s.heap.NoLimit := e0.mod.nolimit.keeps fun b o e => (e0.bs b o e).1
  have ccat := e0.bs _ _ (e0.mod.kin _ _ lcell)
  have C1 : CellsAt F.cl ["__class__"] [(none : Option V)] s.heap H := by
    refine ⟨rfl, fun y c z => ?_, fun x y c z1 z2 => ?_, fun i y z => ?_⟩
    · rw [S.cl] at z
      obtain ⟨rfl, rfl⟩ := look1 z
      exact ⟨ccat.2, _, _, ccat.1, rfl⟩
    · rw [S.cl] at z1 z2
      exact (look1 z1).1.trans (look1 z2).1.symm
    · match i, z with
      | 0, z =>
        cases z
        refine ⟨cc, by rw [S.cl]; rfl, fun v z => ?_⟩
        cases z
      | i + 1, z => simp at z
  refine ks_codeAny_call_defAt (fd := F.fd doc pm ctv) hr.depth (hK _ _ lk) rfl lim (PySem.W.codeRec_of hK S.code) rfl hbi hS.nocell (fun x hx => hS.par _ (List.of_mem_zip hx).1) (fun h₁ hns kp => ?_) hS.co hS.gen hS.kind
  have I : Inv (ncx CX P w K mg base ["self", f1, "__class__"] F f A outer s H E) [] (startF ["self", f1, "__class__"] [.ref a, x] [none]) H { s with heap := h₁, toks := s.toks + ((["self", f1] : List Str).zip us).length } := inv_startN hS hr.hd e0 rfl r C1 hns kp
  have fin : ∀ {σ' : L2.St} {H' : Hp} {v : V} {u : Value} {s' : Shared}, Inv (ncx CX P w K mg base ["self", f1, "__class__"] F f A outer s H E) [] σ' H' s' → L2.RelV v u → Q v H' → CE outer P w H s Q u s' :=
    fun {σ' H' v u s'} J rv q => ⟨v, H', J.os, J.bare, J.base, J.hok, rv, q⟩
  obtain ⟨pl, hc'⟩ := hc (envF F f s.heap.objs.size)
  have go : _root_.PySem.wpAt (model P w) (A.deeper (envF F f s.heap.objs.size)) (.func F.body (envF F f s.heap.objs.size)) (execs F.body (envF F f s.heap.objs.size)) (SP (ncx CX P w K mg base ["self", f1, "__class__"] F f A outer s H E) [] { nx := fun _ H' => Q .non H', rt := Q })
      (ncx CX P w K mg base ["self", f1, "__class__"] F f A outer s H E).xe { s with heap := h₁, toks := s.toks + ((["self", f1] : List Str).zip us).length } := by
    rw [show execs F.body (envF F f s.heap.objs.size) = execs [.Expr (.Call (.Attribute (.Call (.Name "super" p0) [] [] p1) "__init__" p2) [.Name f1 r0] [] p3) p4] (envF F f s.heap.objs.size) by rw [hbd]]
    refine ks_wpAt_execs_cons (ks_wpAt_mono (sup_up (X := ncx CX P w K mg base ["self", f1, "__class__"] F f A outer s H E) (D' := { nx := fun _ H' => Q .non H', rt := Q }) (pl := pl) S hV G (hr.deeper _) hb (hx A outer s H E) rfl rfl hks (hS.frk "__class__" (by simp)) hsl hh I rfl ha
      (pa_cons (pe_var (i := 1) rfl (.inl hfl) hd1 hc1) pa_nil) ⟨x, rfl, ?_⟩ hc' (hs _) (hpl _) (hsw _)) (fun fl s' hq => ?_) fun _ _ z => z)
    · obtain ⟨a', C', xs', e1, h1, h2, h3, h4, h5⟩ := hI
      exact ⟨a', C', xs', e1, h1, h2, h3, h4, h5⟩
    · cases fl with
      | next =>
        obtain ⟨σ', H', J, q'⟩ := hq
        exact wpAt_of_wpAny (pss_nil.run [] _ σ' H' { nx := fun _ H' => Q .non H', rt := Q } J q')
      | ret u => exact hq
      | brk =>
        obtain ⟨_, _, _, z⟩ := hq
        exact z.elim
      | cont =>
        obtain ⟨_, _, _, z⟩ := hq
        exact z.elim
  refine ks_wpAt_mono go (fun fl s' hq => ?_) fun _ _ z => z
  cases fl with
  | next =>
    obtain ⟨σ', H', J, q⟩ := hq
    exact fin (v := V.non) (u := Value.none) J rfl q
  | ret u =>
    obtain ⟨v, σ', H', J, rv, q⟩ := hq
    exact fin J rv q
  | brk =>
    obtain ⟨_, _, _, z⟩ := hq
    exact z.elim
  | cont =>
    obtain ⟨_, _, _, z⟩ := hq
    exact z.elim
end
section
variable {X : Cx} {CX : CXT} {x : Str} {C fI D2 : Addr} {k : Nat} {fd : FuncData} {ps fs : List Str} {e : Expr} {es : List Expr} {ta : TA} {p pos : Pos} {sp : Sp}
/-- C(e, ..), its __init__ of a promise that follows from spI of the class above -/
theorem pmk_by (Vx : SupV X.K C D2) (iC : PySem.W.findIn X.K (.ref C) "__init__" = some (some (.ref fI))) (tI : PySem.W.typeIn X.K (.ref fI) = some (.type "function")) (hn : ∀ f ∈ fs, PySem.W.findIn X.K (.ref C) f = some none)
    (F1 : FnOk X.prog X.w X.K X.mg X.base CX k fI fd ps sp) (conv : ∀ (a : Addr) (xs : List V) (H : Hp) (Q : VK) (E : XK), H a = some (exo a C none) → xs.length = fs.length → spI X.K D2 fs (.ref a :: xs) H Q E → sp (.ref a :: xs) H Q E)
    (hr : Room (k + 1) X.A) (hb : Binds X.K fd ps []) (hx : Passes CX X (fun _ _ _ => False)) (hg : Gl X x) (hm : X.mg x = some (.ref C)) (ha : PA X (e :: es) ta)
    (hdb : (x == ("__debug__" : Str)) = false := by decide) (he : starEach (e :: es) X.env = (false, eval e X.env) :: starEach es X.env := by rfl) (hpl : (backTo pos (starEach es X.env)).any (·.1) = false := by rfl) :
    PMk X (.Call (.Name x p) (e :: es) [] pos) (fun σ H Q => ta σ H fun vs H1 => vs.length = fs.length ∧ vs.length ≤ 1000 ∧ ∀ d, H1 d = none → Q (.ref C) (some d) (upd H1 d (.xd (fs.zip vs).reverse))) := by
  intro pins s σ H Q I h
  have ha' : PA X (e :: es) (fun σ' H' R => σ' = σ ∧ H' = H ∧ ∀ vs H1, (vs.length = fs.length ∧ vs.length ≤ 1000 ∧ ∀ d, H1 d = none → Q (.ref C) (some d) (upd H1 d (.xd (fs.zip vs).reverse))) → R vs H1) :=
    ⟨fun pos pins s σ' H' R I' z => by
      obtain ⟨rfl, rfl, imp⟩ := z
      exact thn (ha.run pos pins s _ _ _ I' h) fun us s1 ⟨vs, H1, I1, r1, q1⟩ => ⟨vs, H1, I1, r1, imp _ _ q1⟩⟩
  refine pmk_oex (dvs := []) Vx.ox iC tI F1 hr hb .nil hx hg hm ha' hdb he hpl pins s σ H Q I ⟨rfl, rfl, fun vs H1 ⟨hl, hz, q⟩ => ⟨hz, fun a hna => ?_⟩⟩
  rw [List.append_nil]
  refine conv a vs _ _ _ upd_same hl ⟨a, C, vs, rfl, hl, upd_same, Vx, hn, fun d hd ne => ?_⟩
  have hd1 : H1 d = none := by rw [upd_ne ne] at hd; exact hd
  refine ⟨rfl, d, (fs.zip vs).reverse, by rw [upd_ne (Ne.symm ne), upd_same], upd_same, hd1, ?_⟩
  have e : upd (del (upd (upd (upd H1 a (exo a C none)) a (exo a C (some d))) d (exd d (fs.zip vs).reverse)) a) d (.xd (fs.zip vs).reverse) = upd H1 d (.xd (fs.zip vs).reverse) := by
    funext b
    by_cases h1 : b = d
    · subst h1
      rw [upd_same, upd_same]
    · rw [upd_ne h1, upd_ne h1]
      by_cases h2 : b = a
      · subst h2
        rw [del_same, hna]
      · rw [del_ne h2, upd_ne h1, upd_ne h2, upd_ne h2]
  rw [e]
  exact q d hd1
end
end TK
namespace TK
open PySem PySem.Spec PyProof.Rows L2 NdefX
/-! ### no fields -/
def spN0 (K : PySem.W.Frag) (D : Addr) : Sp := fun vs H Q _ => ∃ a C, vs = [.ref a] ∧ H a = some (exo a C none) ∧ SupV K C D ∧ Q .non H
section
variable {CX : CXT} {P : Program} {w : World} {K : PySem.W.Frag} {mg : Str → Option Value} {base : Heap} {F : NF} {fd : FuncData} {f D cc : Addr} {k : Nat} {p0 p1 p2 p3 p4 r0 : Pos} {msg : Str} {j : Nat}
/-- def __init__(self): super().__init__('text') -/
theorem fn_init0 (S : SupF P K mg f fd F D cc) (hS : NScope ["self", "__class__"] ["self"] ["__class__"] F.scope)
    (hbd : F.body = [.Expr (.Call (.Attribute (.Call (.Name "super" p0) [] [] p1) "__init__" p2) [.Constant (.str msg) j r0] [] p3) p4])
    (hks : F.scope.names.lookup ("super" : Str) = some .globalImplicit) (hh : (F.params.posonlyargs ++ F.params.args).head?.map (·.arg) = some ("self" : Str))
    (hc : ∀ env : Env, ∃ pl, eval (.Call (.Attribute (.Call (.Name "super" p0) [] [] p1) "__init__" p2) [.Constant (.str msg) j r0] [] p3) env = (do
      let ov ← attributeBase (.Call (.Name "super" p0) [] [] p1) "__init__" env (eval (.Call (.Name "super" p0) [] [] p1) env)
      standAt p2.atName
      let (f, first) ← holding [ov] (getMethod ov "__init__" pl)
      callWith p3 f first (backTo p3 (starEach [.Constant (.str msg) j r0] env)) []) := by exact fun env => ⟨_, rfl⟩) :
    FnOk P w K mg base CX (k + 1) f fd ["self"] (spN0 K D) := by
  refine fn_super S hS hbd rfl hks (hS.frk "__class__" (by simp)) (hS.par "self" (by simp)) hh (fun vs H Q E h => ?_) (fun A outer s H vs Q E hr h => ?_) hc
  · obtain ⟨a, C, rfl, _⟩ := h
    rfl
  · obtain ⟨a, C, rfl, ha, hV, q⟩ := h
    exact ⟨a, C, [], _, _, rfl, hV, ha, pa_cons pe_str pa_nil, pss_nil, by simp, ha, q⟩
end
section
variable {X : Cx} {CX : CXT} {x : Str} {C g : Addr} {k : Nat} {fd : FuncData} {ps : List Str} {p pos : Pos} {pins : List (Addr × Obj)} {σ : L2.St}
/-- an exception without a dict is let go -/
theorem end0 {H H2 : Hp} {h hm h2 : Heap} {g1 g2 : Array GenState} {d1 d2 : Drawn} {t1 t2 : Nat} {o1 o2 : OsState} {a : Addr} (I : Inv X pins σ H ⟨h, g1, d1, t1, o1⟩) (young : h.objs.size ≤ a) (grown : ∀ b o, h.get? b = some o → hm.get? b = some o)
    (U : Un (frs X.stack) [] (upd H a (exo a C none)) H2 hm h2) (ok : HOk X.prog X.w H2 h2) (same : o2 = o1) (bare : AllBare g2) (at_ : H2 a = some (exo a C none)) (R : Raises X (.ref C)) {Q : XK} (q : Q (.ref C) none (del H2 a)) :
    MkP X pins σ Q (.ref a) ⟨h2, g2, d2, t2, o2⟩ := by
  obtain ⟨t0, obj⟩ := exo_at ok at_
  have none_a : H a = none := I.hok.fresh young
  obtain ⟨G, inside, outside⟩ := restrict h2 fun b => decide (b ≠ a)
  have like : ∀ {b}, b ≠ a → G.get? b = h2.get? b := fun {b} nb => inside b (decide_eq_true nb)
  have gone : G.get? a = none := outside a (by simp)
  have old : ∀ {b o}, h.get? b = some o → b ≠ a := fun {b o} z => Nat.ne_of_lt (Nat.lt_of_lt_of_le (Heap.lt_size z) young)
  have un0 : ∀ {b}, b ≠ a → H b = none → upd H a (exo a C none) b = none := fun {b} nb n => (upd_ne nb).trans n
  have W : Un (frs X.stack) [] H (del H2 a) h G := by
    refine ⟨fun b o z n hf hx => (like (old z)).trans (U.keep b o (grown b o z) (un0 (old z) n) hf hx), fun b o z n hf hx => ?_, fun b o z n hx => (del_ne (old z)).trans (U.free b o (grown b o z) (un0 (old z) n) hx), fun b o z hx => ?_,
      fun b xs z => ?_, fun b o v z => ?_, fun b ps z => ?_⟩
    · obtain ⟨sl, e⟩ := U.slot b o (grown b o z) (un0 (old z) n) hf hx
      exact ⟨sl, (like (old z)).trans e⟩
    · obtain ⟨o', e⟩ := U.there b o (grown b o z) hx
      exact ⟨o', (like (old z)).trans e⟩
    · have nb := ne_of_none z none_a
      exact (del_ne nb).trans (U.tups b xs ((upd_ne nb).trans z))
    · have nb := ne_of_none z none_a
      exact (del_ne nb).trans (U.frzs b o v ((upd_ne nb).trans z))
    · have nb := ne_of_none z none_a
      obtain ⟨m, e⟩ := U.tbls b ps ((upd_ne nb).trans z)
      exact ⟨m, (del_ne nb).trans e⟩
  have okG : HOk X.prog X.w (del H2 a) G := fun b o z => by
    have nb : b ≠ a := fun e => by
      rw [e, del_same] at z
      cases z
    rw [del_ne nb] at z
    have away : ∀ {c : Addr}, H2 c = some (.own b) → c ≠ a := fun {c} hc => at_ne at_ hc exo_own
    exact (ok b o z).stay (fun c v hc y => (like (hc.elim (fun e => e ▸ nb) away)).trans y) (fun c hc => (del_ne (away hc)).trans hc) fun c xs hc => (del_ne (at_ne at_ hc exo_tup)).trans hc
  have J : Inv X pins σ (del H2 a) ⟨G, g2, d2, t2, o2⟩ := I.call' (ch := []) same W okG bare fun b z => absurd z (by simp)
  have sub : ∀ b o, G.get? b = some o → h2.get? b = some o := fun b o z => by
    have nb : b ≠ a := fun e => by
      rw [e, gone] at z
      cases z
    exact (like nb).symm.trans z
  exact ⟨a, _, _, ⟨G, g2, d2, t2, o2⟩, _, .ref C, none, rfl, J, sub, gone, obj, ⟨rfl, rfl⟩, rfl, rfl, del_same, rfl, bare, R, q⟩
/-- C(), of such a class -/
theorem pmk_none (Vx : SupV X.K C C) (iC : PySem.W.findIn X.K (.ref C) "__init__" = some (some (.ref g))) (tI : PySem.W.typeIn X.K (.ref g) = some (.type "function"))
    (G : FnOk X.prog X.w X.K X.mg X.base CX k g fd ps (spN0 X.K C)) (hr : Room (k + 1) X.A) (hb : Binds X.K fd ps []) (hx : Passes CX X (fun _ _ _ => False)) (hg : Gl X x) (hm : X.mg x = some (.ref C)) (hdb : (x == ("__debug__" : Str)) = false := by decide) :
    PMk X (.Call (.Name x p) [] [] pos) (fun _ H Q => Q (.ref C) none H) := by
  intro pins s σ H Q I q
  obtain ⟨nm, qn, N, bs, bm, sn, sub, ab, col, dd, k0, k1, k2, k3, k5, hC, hbm⟩ := Vx.ox.cls
  refine wpAny_Call_Name_kw (ld_glob I hg hm ?_ hdb)
  refine PySem.W.callWith_K0 I.kIn Vx.ox.kC ?_
  show wpAny _ _ (call (.ref C) []) _ _ _
  obtain ⟨h, g1, d1, t1, o1⟩ := s
  have young : h.objs.size ≤ h.objs.size + 1 := Nat.le_succ _
  have grown : ∀ b o, h.get? b = some o → ((h.push (PySem.W.kdv_tup [])).push (PySem.HandSPX.excO C h.objs.size)).get? b = some o := fun b o e => Heap.get?_push_of_some _ (Heap.get?_push_of_some _ e)
  have obj : ((h.push (PySem.W.kdv_tup [])).push (PySem.HandSPX.excO C h.objs.size)).get? (h.objs.size + 1) = some (PySem.HandSPX.excO C h.objs.size) := by heap_get
  have I2 : Inv X pins σ (upd H (h.objs.size + 1) (exo (h.objs.size + 1) C none)) ⟨(h.push (PySem.W.kdv_tup [])).push (PySem.HandSPX.excO C h.objs.size), g1, d1, t1, o1⟩ := I.laid (t' := t1) grown young (exo_ok obj)
  have says : spN0 X.K C [.ref (h.objs.size + 1)] (upd H (h.objs.size + 1) (exo (h.objs.size + 1) C none)) (fun v H2 => v = .non ∧ H2 = upd H (h.objs.size + 1) (exo (h.objs.size + 1) C none)) (fun _ _ _ => False) := ⟨_, C, rfl, upd_same, Vx, rfl, rfl⟩
  have rv : Vals [V.ref (h.objs.size + 1)] [Value.ref (h.objs.size + 1)] := .cons rfl .nil
  have hl : ([Value.ref (h.objs.size + 1)] ++ []).length = ps.length := (G.len _ _ _ _ says)
  have hbs := hb _ [Value.ref (h.objs.size + 1)] I2.kIn hl
  refine wpAny_call (PySem.HandSPX.call_own F.excBase_ValueError (fun Y => PySem.HandSPX.refsVE_contains Y bm hbm) (I.kIn _ _ hC) (PySem.W.looks_findIn I.kIn iC) (fun self => PySem.W.bind_fn I.kIn self tI) (Nat.zero_le _)
    (codeAny_mono (G.run _ X.stack _ _ ⟨[Value.ref (h.objs.size + 1)], []⟩ [Value.ref (h.objs.size + 1)] _ _ (fun _ _ _ => False) (hr.make C [] []) (I2.env0.make C [] []) hbs rv says) fun r s' z => ?_))
  cases r with
  | error er => exact hx pins σ _ _ er s' I2 z
  | ok fl =>
    cases fl with
    | ret u =>
      obtain ⟨v, H2, os2, bare2, un2, ok2, rv2, rfl, rfl⟩ := z
      obtain ⟨h2, g2, d2, t2, o2⟩ := s'
      refine ⟨rv2, end0 I young grown un2 ok2 os2 bare2 upd_same (raises_own Vx.ox.exC Vx.ox.tyC) ?_⟩
      have e : del (upd H (h.objs.size + 1) (exo (h.objs.size + 1) C none)) (h.objs.size + 1) = H := by
        funext b
        by_cases nb : b = h.objs.size + 1
        · rw [nb, del_same, I.hok.fresh young]
        · rw [del_ne nb, upd_ne nb]
      rw [e]
      exact q
    | next => exact False.elim z
    | brk => exact False.elim z
    | cont => exact False.elim z
end
end TK
/-! Own toolkit, part r: text + o (the right operand's own method), a tuple turned round. -/
namespace TK
open PySem PySem.Spec PyProof.Rows L2
section
open PySem.W PySem.Calls
variable {prog : Program} {w : World} {A : Around} {E : Value → Shared → Prop} {s : Shared} {K : PySem.W.Frag} {x C f f' : Addr} {ox : Obj} {od : Option Obj} {T : String}
/-- v op o, where v's type has no number slot of that name: o's reflected method answers -/
theorem bin_right {op : Operator} {a : Value} {fo ro : Option Value} {Q : Value → Shared → Prop} (X : K.In s.heap) (I : PySem.W.InstAt s.heap x ox C od) (ha : typeOf a = pure (.type T)) (hc : PySem.W.selfFirst K C = true)
    (hd : PySem.W.findIn K (.ref C) (PySem.dunder op.info.2) = some (some (.ref f'))) (hs : PySem.W.findIn K (.ref C) (dunderR op.info.2) = some (some (.ref f))) (hf : PySem.W.isFn K (.ref f) = true)
    (h1 : PySem.W.findIn K (.type T) (PySem.dunder op.info.2) = some fo) (h2 : PySem.W.findIn K (.type T) (dunderR op.info.2) = some ro) (hl : ((fo.isSome && !isSeqSlot fo) || (ro.isSome && !isSeqSlot ro)) = false)
    (h : wpAny (model prog w) A (call (.ref f) [.ref x, a]) (PySem.W.CmpBack Q) E s) : wpAny (model prog w) A (binaryOp op a (.ref x)) Q E s := by
  obtain ⟨cd, rest, hcd, hm⟩ := PySem.W.ksp_first hc
  rcases hi : op.info with ⟨sym, nm'⟩
  rw [hi] at hd hs h1 h2
  dsimp only at hd hs h1 h2
  have one := PySem.W.ksp_try X I hs hf h
  obtain ⟨hh, g, d, tt, os⟩ := s
  have Lx : PySem.W.Looks (model prog w) hh (typeOf (.ref x)) (.ref C) := I.type
  have La : PySem.W.Looks (model prog w) hh (typeOf a) (.type T) := PySem.W.Looks.of_pure ha
  have Lr : PySem.W.Looks (model prog w) hh (fillsNumberSlot (.ref C) nm') true := PySem.W.fills_K X hcd hm hd
  have Ll : PySem.W.Looks (model prog w) hh (fillsNumberSlot (.type T) nm') false := hl ▸ PySem.W.ksp_fillsT X h1 h2
  have hne : (Value.type T == Value.ref C) = false := Bool.eq_false_iff.mpr fun q => by cases beq_iff_eq.mp q
  simp only [binaryOp, hi]
  refine wpAny_holding (wpAny_bind ?_)
  unfold binaryOp1
  refine wpAny_bind (La.at (wpAny_bind (Lx.at (wpAny_bind (Ll.at ?_)))))
  simp only [hne, Bool.false_eq_true, if_false]
  ksp_lk
  refine wpAny_mono one (fun r s' hr' => ?_) fun _ _ e => e
  obtain ⟨v, rfl, hq⟩ := hr'
  ksp_lk
  exact hq
end
end TK
namespace TK
open PySem PySem.Spec PyProof.Rows L2
section
open HT
variable {prog : Program} {w : World} {A : Around} {E : Value → Shared → Prop} {s : Shared}
theorem back_adjust (n : Nat) : Builtin.Slice.sliceAdjust none none (-1) (n : Int) = ((n : Int) - 1, -1) := by
  unfold Builtin.Slice.sliceAdjust
  rfl
theorem back_places (n : Nat) : Builtin.Slice.slicePlaces ((n : Int) - 1) (-1) (-1) = n := by
  unfold Builtin.Slice.slicePlaces
  rw [if_neg (by decide)]
  by_cases h : (n : Int) - 1 > -1
  · rw [if_pos h, show (-(-1 : Int)) = 1 by decide, Int.ediv_one]
    omega
  · rw [if_neg h]
    omega
theorem back_applied {sl : Addr} {u : Tok} {n : Nat} {Q : Int × Int × Nat → Shared → Prop} (hs : s.heap.IsSliceOf sl .none .none (.int (-1) u)) (h : Q ((n : Int) - 1, -1, n) s) : wpAny (model prog w) A (Builtin.Slice.sliceApplied (.ref sl) (pure (n : Int))) Q E s := by
  obtain ⟨ob, hob, _, hflds⟩ := id hs
  unfold Builtin.Slice.sliceApplied Builtin.Slice.sliceFields
  have three := @wpAny_field
  refine wpAny_bind (wpAny_bind (wpAny_field hob hflds (x := .none) rfl (wpAny_bind (wpAny_field hob hflds (x := .none) rfl (wpAny_bind (wpAny_field hob hflds (x := .int (-1) u) rfl (wpAny_pure ?_)))))))
  refine wpAny_bind (slicePart_int ?_)
  show wpAny _ _ (if ((-1 : Int) == 0) = true then _ else _) _ _ s
  rw [if_neg (by decide)]
  refine wpAny_bind (slicePart_none (wpAny_bind (slicePart_none (wpAny_bind (wpAny_pure ?_)))))
  show wpAny _ _ (match Builtin.Slice.sliceAdjust none none (-1) (n : Int) with | (l, h) => pure (l, (-1 : Int), Builtin.Slice.slicePlaces l h (-1))) _ _ s
  rw [back_adjust n]
  show wpAny _ _ (pure ((n : Int) - 1, (-1 : Int), Builtin.Slice.slicePlaces ((n : Int) - 1) (-1) (-1))) _ _ s
  rw [back_places]
  exact wpAny_pure h
theorem fm_congr {α β : Type} {f g : α → Option β} : ∀ {l : List α}, (∀ m ∈ l, f m = g m) → l.filterMap f = l.filterMap g
  | [], _ => rfl
  | a :: l, h => by rw [List.filterMap_cons, List.filterMap_cons, h a List.mem_cons_self, fm_congr fun m hm => h m (List.mem_cons_of_mem _ hm)]
theorem back_pick (its : Array Value) : ((List.range its.size).filterMap fun (m : Nat) => its[(((its.size : Nat) : Int) - 1 + (m : Int) * (-1)).toNat]?).toArray = its.toList.reverse.toArray := by
  have e := PySem.W.krv_pick its
  unfold slicePick at e
  rw [PySem.W.krv_bounds] at e
  have e' : ((sliceRange ((its.size : Int) - 1) (-1) (-1)).filterMap (its[·]?)).toArray = its.toList.reverse.toArray := e
  rw [PySem.W.krv_sliceRange, List.filterMap_map] at e'
  rw [← e']
  refine congrArg List.toArray (fm_congr fun m hm => ?_)
  have := List.mem_range.mp hm
  have e1 : ((its.size : Int) - 1 + (m : Int) * (-1)).toNat = its.size - 1 - m := by omega
  rw [e1]
  rfl
theorem getItem_tuple_back {t sl : Addr} {its : Array Value} {u : Tok} {Q : Value → Shared → Prop} (ht : IsTup s.heap t its) (hs : s.heap.IsSliceOf sl .none .none (.int (-1) u))
    (h : Q (.ref s.heap.objs.size) { s with heap := s.heap.push { cls := .type "tuple", data := .seq its.toList.reverse.toArray } }) (hz : its.size ≤ sizeLine) : wpAny (model prog w) A (getItem (.ref t) (.ref sl)) Q E s := by
  have fits : sizeOk (.seq its.toList.reverse.toArray) := by
    show its.toList.reverse.toArray.size ≤ sizeLine
    rw [List.size_toArray, List.length_reverse, Array.length_toList]
    exact hz
  obtain ⟨ob, hob, hcs, _⟩ := id hs
  have kind : s.TypeIs (.ref sl) "slice" := ⟨ob, hob, hcs⟩
  unfold getItem
  try with_reducible refine wpAny_holding ?_
  first | refine wpAny_bind (wpAny_pure ?_) | skip
  refine wpAny_bind (wpAny_sequenceKey ht.typeIs (by decide) (wpAny_bind (wpAny_callSpecial?_slot (name := Str.ofString "__getitem__") ht.typeIs PyProof.Rows.slot_tuple_getitem
    (wpAny_call_entry PyProof.Rows.slot_tuple_getitem ht.typeIs entry_tuple_getitem ?_ (args_tuple_getitem _ _)))))
  show wpAny _ _ (Builtin.Tuple.tupleItemsOf (.ref t) >>= _) _ _ s
  refine wpAny_bind (tupleItemsOf_ ht (wpAny_bind (wpAny_typeOf kind ?_)))
  rw [if_pos (by decide)]
  refine wpAny_bind (back_applied hs ?_)
  have other : ¬ ((((its.size : Int) - 1) == 0 && (-1 : Int) == 1 && its.size == its.size) = true) := by
    intro q
    rw [Bool.and_eq_true, Bool.and_eq_true] at q
    exact absurd q.1.2 (by decide)
  show wpAny _ _ (if (((its.size : Int) - 1) == 0 && (-1 : Int) == 1 && its.size == its.size) = true then _ else _) _ _ s
  rw [if_neg other, back_pick]
  first
    | exact wpAny_bind (m := Builtin.Tuple.tupleExact _) (wpAny_newObj_type (wpAny_pure ⟨_, rfl, wpAny_pure h⟩) fits)
    | exact wpAny_bind (m := Builtin.Tuple.tupleExact _) (wpAny_newObj_type (wpAny_bind (wpAny_pure (wpAny_pure ⟨_, rfl, wpAny_pure h⟩))) fits)
    | exact wpAny_bind (wpAny_bind (m := Builtin.Tuple.tupleExact _) (wpAny_newObj_type (wpAny_pure (wpAny_pure ⟨_, rfl, wpAny_pure h⟩)) fits))
    | exact wpAny_bind (wpAny_bind (m := Builtin.Tuple.tupleExact _) (wpAny_newObj_type (wpAny_pure ⟨_, rfl, wpAny_pure h⟩) fits))
end
def tRevT (K : PySem.W.Frag) (te : TE) : TE := fun σ H Q => te σ H fun x H1 => ∃ a xs, x = .ref a ∧ SqT K H1 a xs ∧ ∀ p, H1 p = none → Q (.ref p) (upd H1 p (.tup xs.reverse))
section
variable {X : Cx}
/-- t[::-1], t a tuple -/
theorem pe_revT {e : Expr} {te : TE} {k : Nat} {p1 p2 p3 pos : Pos} (he : PE X e te) : PE X (.Subscript e (.Slice none none (some (.UnaryOp .USub (.Constant (.int 1) k p1) p2)) p3) pos) (tRevT X.K te) := by
  refine ⟨fun pins s σ H Q I h => ?_⟩
  refine Subscript_ (thn (he.run pins s σ H _ I h) fun v s1 ⟨x, H1, I1, r1, q1⟩ => ?_)
  obtain ⟨a, xs, ex, hx, q⟩ := q1
  subst ex
  cases r1
  have one : PO X (some (.UnaryOp .USub (.Constant (.int 1) k p1) p2)) (tPart (tUn (rU fun i => .int (-i)) (tC (.int 1)))) := po_some (pe_un un_neg pe_int)
  refine wpAny_Slice (thn (po_none.run pins s1 σ H1 (fun o H2 => o = none ∧ H2 = H1) I1 ⟨rfl, rfl⟩) fun vl s2 ⟨l, H2, I2, pl, el, e2⟩ => ?_)
  subst el e2
  refine thn (po_none.run pins s2 σ H2 (fun o H3 => o = none ∧ H3 = H2) I2 ⟨rfl, rfl⟩) fun vu s3 ⟨u, H3, I3, pu, eu, e3⟩ => ?_
  subst eu e3
  refine thn (one.run pins s3 σ H3 (fun o H4 => o = some (-1) ∧ H4 = H3) I3 ⟨1, rfl, -1, rfl, rfl, rfl⟩) fun vs s4 ⟨o, H4, I4, ps, eo, e4⟩ => ?_
  subst eo e4
  cases pl
  cases pu
  obtain ⟨tk, rfl⟩ : ∃ tk, vs = .int (-1) tk := by cases ps; exact ⟨_, rfl⟩
  have I5 : Inv X pins σ H4 { s4 with heap := s4.heap.push { cls := .type "slice", data := .fields #[Value.none, Value.none, .int (-1) tk] } } := I4.kept (t' := s4.toks) fun b ob q => Heap.get?_push_of_some _ q
  obtain ⟨its, r, ht, hz⟩ := I5.tuple hx
  have hlen := r.length
  show wpAny (model X.prog X.w) X.A (subscriptTail e (.Slice none none (some (.UnaryOp .USub (.Constant (.int 1) k p1) p2)) p3) (.ref a) (.ref s4.heap.objs.size)) (EP X pins σ Q) X.xe { s4 with heap := s4.heap.push { cls := .type "slice", data := .fields #[Value.none, Value.none, .int (-1) tk] } }
  refine tail_any (ops := [.ref a, .ref s4.heap.objs.size]) ht.typeIs PyProof.Rows.slot_tuple_getitem.lookup ?_ (by with_unfolding_all rfl)
  refine getItem_tuple_back ht (Heap.IsSliceOf.new _ _ _ _) ?_ (by rw [List.size_toArray]; omega)
  refine ⟨.ref _, _, I5.laid (t' := s4.toks) (o := .tup xs.reverse) (fun b ob q => Heap.get?_push_of_some _ q) (Nat.le_refl _) ?_, rfl, q _ (I5.hok.fresh (Nat.le_refl _))⟩
  refine ⟨by rw [List.length_reverse]; exact hz, its.reverse, r.reverse, ?_⟩
  exact IsTup.new _ _
end
end TK
/-! Own toolkit, part u: an exception class over an own one, as a yes-or-no fact of the top. -/
namespace TK
open PySem PySem.Spec PyProof.Rows L2 NdefX
def supUB (K : PySem.W.Frag) (C D g : Addr) : Bool := decide (PySem.W.mroIn K C (.ref D) = some true) && (decide (PySem.W.ks_superIn K C D "__init__" = some (some (.ref g))) && (decide (PySem.W.typeIn K (.ref g) = some (.type "function")) &&
  (PySem.W.fnIn K g && decide (PySem.W.nsIn K PySem.cStatics "thirdparty.any" = some none))))
theorem supUB_ok {K : PySem.W.Frag} {C D g : Addr} (h : supUB K C D g = true) : SupU K C D g := by
  obtain ⟨h1, h⟩ := ba2 h
  obtain ⟨h2, h⟩ := ba2 h
  obtain ⟨h3, h⟩ := ba2 h
  obtain ⟨h4, h5⟩ := ba2 h
  exact ⟨of_decide_eq_true h1, of_decide_eq_true h2, of_decide_eq_true h3, h4, of_decide_eq_true h5⟩
/-- class x, whose __init__ calls that of the own class y above it -/
def ownUB (K : PySem.W.Frag) (x y : Str) (fs : List Str) : Bool := supVB K (He.ga K x) (He.ga K y) && (supUB K (He.ga K x) (He.ga K x) (He.ma K (He.ga K y) "__init__") && (excCB K (He.ga K x) && (xfB K (He.ga K x) &&
  (fs.all (fun f => decide (PySem.W.findIn K (.ref (He.ga K x)) f = some none)) &&
  (decide (PySem.W.findIn K (.ref (He.ga K x)) "__init__" = some (some (.ref (He.ma K (He.ga K x) "__init__")))) && decide (PySem.W.typeIn K (.ref (He.ma K (He.ga K x) "__init__")) = some (.type "function")))))))
structure OwnU (K : PySem.W.Frag) (x y : Str) (fs : List Str) : Prop where
  v : SupV K (He.ga K x) (He.ga K y)
  u : SupU K (He.ga K x) (He.ga K x) (He.ma K (He.ga K y) "__init__")
  e : ExcC K (He.ga K x)
  f : XfC K (He.ga K x)
  n : ∀ f ∈ fs, PySem.W.findIn K (.ref (He.ga K x)) f = some none
  i : PySem.W.findIn K (.ref (He.ga K x)) "__init__" = some (some (.ref (He.ma K (He.ga K x) "__init__")))
  t : PySem.W.typeIn K (.ref (He.ma K (He.ga K x) "__init__")) = some (.type "function")
theorem ownUB_ok {K : PySem.W.Frag} {x y : Str} {fs : List Str} (h : ownUB K x y fs = true) : OwnU K x y fs := by
  obtain ⟨h1, h⟩ := ba2 h
  obtain ⟨h2, h⟩ := ba2 h
  obtain ⟨h3, h⟩ := ba2 h
  obtain ⟨h4, h⟩ := ba2 h
  obtain ⟨h5, h⟩ := ba2 h
  obtain ⟨h6, h7⟩ := ba2 h
  exact ⟨supVB_ok h1, supUB_ok h2, excCB_ok h3, xfB_ok h4, fun f hf => of_decide_eq_true (List.all_eq_true.mp h5 f hf), of_decide_eq_true h6, of_decide_eq_true h7⟩
theorem FactsN.supFU {fa : List He.Fa} {fn : List He.DefD} {ex : Ex} {fi : List IniD} {K : PySem.W.Frag} {mg : Str → Option Value} {P : Program} {fs : List Str} {y : Str} (T : FactsN fa fn ex fi K mg) (i : Nat) (d : IniD) (c : iniB P K d = true) (o : OwnU K d.cls y fs) (hs : mg "super" = none) (h : fi[i]? = some d := by rfl) :
    ∃ cc, SupF P K mg (He.ma K (He.ga K d.cls) "__init__") (fdOf K (d.cls, some "__init__")) (d.nf K) (He.ga K d.cls) cc := by
  refine ini_ok (T.ini_ i d h) c ?_ hs
  obtain ⟨cd, z, _⟩ := PySem.W.any_some o.f.hdC
  exact ⟨cd, z⟩
section
variable {X : Cx} {CX : CXT} {x y : Str} {k : Nat} {fd : FuncData} {ps fs : List Str} {e : Expr} {es : List Expr} {ta : TA} {p pos : Pos}
/-- C(e, ..) of such a class, as a thing to raise -/
theorem pmk_up (o : OwnU X.K x y fs) (F1 : FnOk X.prog X.w X.K X.mg X.base CX k (He.ma X.K (He.ga X.K x) "__init__") fd ps (spU X.K (He.ga X.K x) (He.ma X.K (He.ga X.K y) "__init__") (He.ga X.K y) fs)) (hr : Room (k + 1) X.A) (hb : Binds X.K fd ps []) (hx : Passes CX X (fun _ _ _ => False)) (hg : Gl X x) (hm : X.mg x = some (.ref (He.ga X.K x))) (ha : PA X (e :: es) ta)
    (hdb : (x == ("__debug__" : Str)) = false := by decide) (he : starEach (e :: es) X.env = (false, eval e X.env) :: starEach es X.env := by rfl) (hpl : (backTo pos (starEach es X.env)).any (·.1) = false := by rfl) :
    PMk X (.Call (.Name x p) (e :: es) [] pos) (fun σ H Q => ta σ H fun vs H1 => vs.length = fs.length ∧ vs.length ≤ 1000 ∧ ∀ d, H1 d = none → Q (.ref (He.ga X.K x)) (some d) (upd H1 d (.xd (fs.zip vs).reverse))) :=
  pmk_by o.v o.i o.t o.n F1 (fun a xs H Q E h hl z => ⟨a, _, xs, rfl, hl, h, o.u, z⟩) hr hb hx hg hm ha hdb he hpl
end
/-- what a class's operators with a built-in type on the right lean on -/
theorem binTB_first {K : PySem.W.Frag} {C : Addr} {nm T : String} (h : binTB K C nm T = true) : PySem.W.selfFirst K C = true := by
  unfold binTB at h
  simp only [Bool.and_eq_true] at h
  exact h.1.1.1.1
/-- the same with the built-in type on the left -/
def binRB (K : PySem.W.Frag) (C : Addr) (nm T : String) : Bool := PySem.W.selfFirst K C && (match PySem.W.findIn K (.type T) (PySem.dunder nm), PySem.W.findIn K (.type T) (dunderR nm) with
  | some fo, some ro => !((fo.isSome && !isSeqSlot fo) || (ro.isSome && !isSeqSlot ro))
  | _, _ => false)
section
variable {X : Cx} {CX : CXT} {k : Nat} {C f g : Addr} {fd : FuncData} {ps : List Str} {sp : Sp} {E : XK}
def rDunR (C : Addr) (T : String) (sp : Sp) (E : XK) : R2 := fun x y H Q => ∃ p dx fs, y = .ref p ∧ H p = some (.ins C dx fs) ∧ (∀ u, RelV x u → typeOf u = pure (.type T)) ∧ sp [.ref p, x] H Q E
/-- v op o -/
theorem op_ownR {op : Operator} {T : String} (m0 : Meth X.K C (PySem.dunder op.info.2) g) (m : Meth X.K C (dunderR op.info.2) f) (hB : binRB X.K C op.info.2 T = true) (F : FnOk X.prog X.w X.K X.mg X.base CX k f fd ps sp) (hr : Room k X.A) (hb : Binds X.K fd ps []) (hx : Passes CX X E) :
    OpR X (binaryOp op) (rDunR C T sp E) := by
  intro pins s σ H x y v u Q I rx ry h
  obtain ⟨p, dx, fs, rfl, ep, hT, hs⟩ := h
  cases ry
  obtain ⟨od, J⟩ := inst_at I ep
  unfold binRB at hB
  obtain ⟨h1, h2⟩ := ba2 hB
  cases q1 : PySem.W.findIn X.K (.type T) (PySem.dunder op.info.2) with
  | none =>
    rw [q1] at h2
    cases h2
  | some fo =>
    cases q2 : PySem.W.findIn X.K (.type T) (dunderR op.info.2) with
    | none =>
      rw [q1, q2] at h2
      cases h2
    | some ro =>
      rw [q1, q2] at h2
      have h3 : ((fo.isSome && !isSeqSlot fo) || (ro.isSome && !isSeqSlot ro)) = false := (Bool.not_eq_true' _).mp h2
      exact bin_right I.kIn J (hT _ rx) h1 m0.at_ m.at_ m.fn q1 q2 h3 (wpAny_mono (run_fn1 (A' := X.A) rfl F hr hb hx I (.cons (vref _) (.cons rx .nil)) hs) (fun _ _ z => cmp_back z) fun _ _ z => z)
end
end TK
/-! Own toolkit, part v: own operators whose methods may raise, told with the state at hand (in a try). -/
namespace TK
open PySem PySem.Spec PyProof.Rows L2
section
variable {X : Cx} {CX : CXT} {k : Nat} {C f g : Addr} {fd : FuncData} {ps : List Str} {sp : Sp} {E : L2.St → XK} {pins : List (Addr × Obj)} {σ : L2.St} {H : Hp} {s : Shared}
/-- what lets nothing out passes -/
theorem passN : Passes (L2.CX X.prog X.w) X (fun _ _ _ => False) := fun _ _ _ _ _ _ _ h => by
  obtain ⟨_, _, _, _, _, _, _, _, _, _, _, _, z⟩ := h
  exact z.elim
theorem run_at {A' : Around} (hA : A'.frames = X.A.frames) {Q : VK} {us : List Value} {vs : List V} {E : XK} (F : FnOk X.prog X.w X.K X.mg X.base CX k f fd ps sp) (hr : Room k A') (hb : Binds X.K fd ps []) (hx : PassesAt CX X σ E)
    (I : Inv X pins σ H s) (r : Vals vs us) (h : sp vs H Q E) : wpAny (model X.prog X.w) A' (call (.ref f) us) (EP X pins σ Q) X.xe s := by
  have many : (us ++ []).length = ps.length := by rw [List.append_nil, ← r.length]; exact F.len _ _ _ _ h
  have e := I.env0
  have there : Env0 X.prog X.w X.K X.mg X.base A' X.stack s H := ⟨by rw [hA]; exact e.frames, e.mod, e.bs, e.bsz, e.funs, e.frf, e.hok, e.bare⟩
  have bound := hb s us I.kIn many
  rw [List.append_nil] at bound
  refine wpAny_call (codeAny_mono (F.run A' X.stack s H ⟨us, []⟩ us vs Q E hr there bound r h) fun out s' z => ?_)
  cases out with
  | error e => exact hx pins H s e s' I z
  | ok fl =>
    cases fl with
    | ret u => exact I.after z
    | next => exact z.elim
    | brk => exact z.elim
    | cont => exact z.elim
/-- a op b, a's own method, b of a built-in type -/
def tOwnT (C : Addr) (T : String) (sp : Sp) (E : L2.St → XK) (ta tb : TE) : TE := fun σ H Q => ta σ H fun x H1 => tb σ H1 fun y H2 => rDunT C T sp (E σ) x y H2 Q
theorem pe_ownT {op : Operator} {T : String} {a b : Expr} {ta tb : TE} {pos : Pos} (m : Meth X.K C (PySem.dunder op.info.2) f) (hB : binTB X.K C op.info.2 T = true) (F : FnOk X.prog X.w X.K X.mg X.base CX k f fd ps sp) (hr : Room k X.A) (hb : Binds X.K fd ps []) (hx : ∀ σ, PassesAt CX X σ (E σ))
    (ea : PE X a ta) (eb : PE X b tb) : PE X (.BinOp a op b pos) (tOwnT C T sp E ta tb) := by
  refine ⟨fun pins s σ H Q I h => wpAny_BinOp (binT ea eb I h fun v u s2 x y H2 I2 rx ry q => ?_)⟩
  obtain ⟨p, dx, fs, rfl, ep, hT, hs⟩ := q
  cases rx
  obtain ⟨od, J⟩ := inst_at I2 ep
  obtain ⟨m0, hF⟩ := I2.fr
  unfold binTB at hB
  simp only [Bool.and_eq_true, beq_iff_eq] at hB
  obtain ⟨⟨⟨⟨h1, h2⟩, h3⟩, h4⟩, h5⟩ := hB
  obtain ⟨fo, e3⟩ := Option.isSome_iff_exists.mp h3
  obtain ⟨ro, e4⟩ := Option.isSome_iff_exists.mp h4
  obtain ⟨rc, e2, p2⟩ : ∃ rc, PySem.W.findIn X.K (.ref C) (dunderR op.info.2) = some rc ∧ (rc = none ∨ ∃ g : Addr, rc = some (.ref g)) := by
    cases q : PySem.W.findIn X.K (.ref C) (dunderR op.info.2) with
    | none => rw [q] at h2; cases h2
    | some rc =>
      rw [q] at h2
      cases rc with
      | none => exact ⟨_, rfl, .inl rfl⟩
      | some v => cases v <;> first | exact ⟨_, rfl, .inr ⟨_, rfl⟩⟩ | cases h2
  exact PySem.W.ksp_binT hF I2.ok.mod.kin J (hT _ ry) h1 m.at_ m.fn e2 p2 e3 e4 h5 (wpAny_mono (run_at (A' := X.A) rfl F hr hb (hx σ) I2 (.cons (vref _) (.cons ry .nil)) hs) (fun _ _ z => cmp_back z) fun _ _ z => z)
/-- a op b, b's own method, a of a built-in type -/
def tOwnR (C : Addr) (T : String) (sp : Sp) (E : L2.St → XK) (ta tb : TE) : TE := fun σ H Q => ta σ H fun x H1 => tb σ H1 fun y H2 => rDunR C T sp (E σ) x y H2 Q
theorem pe_ownR {op : Operator} {T : String} {a b : Expr} {ta tb : TE} {pos : Pos} (m0 : Meth X.K C (PySem.dunder op.info.2) g) (m : Meth X.K C (dunderR op.info.2) f) (hB : binRB X.K C op.info.2 T = true) (F : FnOk X.prog X.w X.K X.mg X.base CX k f fd ps sp) (hr : Room k X.A) (hb : Binds X.K fd ps []) (hx : ∀ σ, PassesAt CX X σ (E σ))
    (ea : PE X a ta) (eb : PE X b tb) : PE X (.BinOp a op b pos) (tOwnR C T sp E ta tb) := by
  refine ⟨fun pins s σ H Q I h => wpAny_BinOp (binT ea eb I h fun v u s2 x y H2 I2 rx ry q => ?_)⟩
  obtain ⟨p, dx, fs, rfl, ep, hT, hs⟩ := q
  cases ry
  obtain ⟨od, J⟩ := inst_at I2 ep
  unfold binRB at hB
  obtain ⟨h1, h2⟩ := ba2 hB
  cases q1 : PySem.W.findIn X.K (.type T) (PySem.dunder op.info.2) with
  | none =>
    rw [q1] at h2
    cases h2
  | some fo =>
    cases q2 : PySem.W.findIn X.K (.type T) (dunderR op.info.2) with
    | none =>
      rw [q1, q2] at h2
      cases h2
    | some ro =>
      rw [q1, q2] at h2
      have h3 : ((fo.isSome && !isSeqSlot fo) || (ro.isSome && !isSeqSlot ro)) = false := (Bool.not_eq_true' _).mp h2
      exact bin_right I2.kIn J (hT _ rx) h1 m0.at_ m.at_ m.fn q1 q2 h3 (wpAny_mono (run_at (A' := X.A) rfl F hr hb (hx σ) I2 (.cons (vref _) (.cons rx .nil)) hs) (fun _ _ z => cmp_back z) fun _ _ z => z)
/-- ~e -/
def tOwnI (C : Addr) (sp : Sp) (E : L2.St → XK) (ta : TE) : TE := fun σ H Q => ta σ H fun x H1 => rDun1 C sp (E σ) x H1 Q
theorem pe_ownI {a : Expr} {ta : TE} {pos : Pos} (m : Meth X.K C "__invert__" f) (F : FnOk X.prog X.w X.K X.mg X.base CX k f fd ps sp) (hr : Room k X.A) (hb : Binds X.K fd ps []) (hx : ∀ σ, PassesAt CX X σ (E σ)) (ea : PE X a ta) : PE X (.UnaryOp .Invert a pos) (tOwnI C sp E ta) := by
  refine ⟨fun pins s σ H Q I h => UnaryOp_ (thn (ea.run pins s σ H _ I h) fun v s1 ⟨x, H1, I1, rx, q⟩ => ?_)⟩
  obtain ⟨p, dx, fs, rfl, ep, hs⟩ := q
  cases rx
  obtain ⟨od, J⟩ := inst_at I1 ep
  obtain ⟨m0, hF⟩ := I1.fr
  exact PySem.W.ksp_inv hF I1.ok.mod.kin J m.at_ m.fn (run_at (A' := X.A) rfl F hr hb (hx σ) I1 (.cons (vref _) .nil) hs)
/-- x op= e at a local name that holds an own object -/
def tOwnA (C : Addr) (sp : Sp) (E : L2.St → XK) (i : Nat) (te : TE) : TS := fun D σ H => ∃ v, σ[i]? = some (some v) ∧ te σ H fun y H1 => rDun C sp (E σ) v y H1 fun z H2 => D.nx (σ.set i (some z)) H2
theorem ps_ownA {i : Nat} {x : Str} {e : Expr} {te : TE} {op : Operator} {pos pos' : Pos} (m : Meth X.K C (dunderI op.info.2) f) (hc : PySem.W.selfFirst X.K C = true) (F : FnOk X.prog X.w X.K X.mg X.base CX k f fd ps sp) (hr : Room k X.A) (hb : Binds X.K fd ps []) (hx : ∀ σ, PassesAt CX X σ (E σ))
    (hN : X.N.Nodup) (hi : X.N[i]? = some x) (lo : X.env.kindOf x = some .local) (he : PE X e te) (hl : Loc X.env.scope x) (hf : X.fn x = true ∨ X.env.scope.names.lookup x = some .local) : PS X (.AugAssign (.Name x pos') op e pos) (tOwnA C sp E i te) := by
  refine ⟨fun pins s σ H D I h => ?_⟩
  obtain ⟨v, e1, h⟩ := h
  obtain ⟨m1, hn, look⟩ := I.loc
  obtain ⟨u, r, l⟩ := look i x v hi e1 (.inl lo)
  have hm : m1 x = some u := by
    rcases l with ⟨_, z⟩ | ⟨kk, _⟩
    · exact z
    · rw [lo] at kk
      rcases kk with z | z <;> cases z
  refine wpAny_AugAssign_Name (wpAny_loadName_local I.ok.kind lo hn hm (thn (he.run pins s σ H _ I h) fun w s1 ⟨y, H1, I1, r1, q⟩ => ?_))
  obtain ⟨p, dx, fs, rfl, ep, hs⟩ := q
  cases r
  obtain ⟨od, J⟩ := inst_at I1 ep
  obtain ⟨m0, hF⟩ := I1.fr
  refine PySem.W.ksp_inplace hF I1.ok.mod.kin J hc m.at_ m.fn (wpAny_mono (run_at (A' := X.A) rfl F hr hb (hx σ) I1 (.cons (vref _) (.cons r1 .nil)) hs) (fun z s2 q => ?_) fun _ _ z => z)
  have back : PySem.W.CmpBack (fun t s' => EP X pins σ (fun z H2 => D.nx (σ.set i (some z)) H2) t s') z s2 := cmp_back q
  have post : ∀ {t : Value} {s' : Shared}, EP X pins σ (fun z H2 => D.nx (σ.set i (some z)) H2) t s' → wpAny (model X.prog X.w) X.A (storeName X.env x t) (fun _ => SP X pins D .next) X.xe s' := fun {t s'} q => by
    obtain ⟨zv, H2, I2, r2, q2⟩ := q
    exact store_ok I2 hN hi hl r2 (fun s3 I3 => ⟨_, H2, I3, q2⟩) hf
  cases z <;> first | exact post back | exact back.elim
end
end TK
/-! Own toolkit, part q: isinstance of a caught own error, with fields or without. -/
namespace TK
open PySem PySem.Spec PyProof.Rows L2 PySem.W
/-- isinstance(e, c), e the caught error at a, its class cls, its dict dd if it has one -/
def rIsE (K : PySem.W.Frag) (a : Addr) (cls : Value) (dd : Option Addr) : List V → Hp → VK → Prop := fun xs H Q => ∃ (D : Addr) (c : V) (cv : Value) (b : Bool), cls = .ref D ∧ ExcC K D ∧ xs = [.ref a, c] ∧ ClsV c cv ∧
  PySem.W.kitOne K (.ref D) cv = some b ∧ (dd = none ∨ ∃ (d : Addr) (fs : List (Str × V)), dd = some d ∧ H d = some (.xd fs)) ∧ Q (.bl b) H
theorem call_isE {X : Cx} {a : Addr} {cls : Value} {dd : Option Addr} {oe : Obj} {pn : List (Addr × Obj)} (hz : Zc cls dd oe) (hf : ∃ vs, oe.data = .fields vs) : CallR (X.suite a ((a, oe) :: pn)) (.builtin "isinstance") (rIsE X.K a cls dd) := by
  intro pins s σ H xs us Q I r h
  obtain ⟨D, c, cv, b, rfl, T, rfl, hcv, e, hd, q⟩ := h
  obtain ⟨u1, u2, rfl, r1, r2⟩ : ∃ u1 u2, us = [u1, u2] ∧ RelV (.ref a) u1 ∧ RelV c u2 := by
    cases r with
    | cons r1 rr => cases rr with
      | cons r2 rr => cases rr; exact ⟨_, _, rfl, r1, r2⟩
  obtain rfl : u1 = Value.ref a := r1
  obtain rfl := hcv.eq r2
  obtain ⟨here, _⟩ := I.pin (a, oe) (List.mem_append.mpr (.inl List.mem_cons_self))
  obtain ⟨vs, hv⟩ := hf
  have plain : PySem.W.notCls oe = true := by unfold PySem.W.notCls; rw [hv] <;> rfl
  obtain ⟨od, J⟩ : ∃ od, InstAt s.heap a oe D od := by
    rcases hd with rfl | ⟨d, fs, rfl, hx⟩
    · exact ⟨none, here, hz.1, plain, by rw [hz.2]; exact trivial⟩
    · obtain ⟨mA, hns, _⟩ := (show ObjOk X.prog X.w H s.heap d (.xd fs) from I.hok d _ hx)
      obtain ⟨od, ho, _⟩ := lookIn_ns hns
      exact ⟨some od, here, hz.1, plain, by rw [hz.2]; exact ho⟩
  exact PySem.W.kia_one (kitx_excD (ox := oe) T) I.kIn ⟨_, J⟩ e (fun z => nomatch z) fun tk => ⟨.bl b, H, I.kept (t' := tk) fun _ _ z => z, rfl, q⟩
end TK
/-! Own toolkit, part La: staticmethods called through their class. -/
namespace TK
open PySem PySem.Spec PyProof.Rows L2
/-- C.m is a staticmethod: its record at p, its def at g -/
structure SMet (K : PySem.W.Frag) (C : Addr) (mc : Value) (m : Str) (p g : Addr) : Prop where
  at_ : PySem.W.findCls K (.ref C) mc m = some (.get (.builtin "staticmethod.__get__") (.ref p) .none (.ref C))
  rc : ∃ rest, PySem.W.recIn K p "staticmethod" = some (.ref g :: rest)
  kp : PySem.W.keepIn K (.ref g) = true
section
variable {X : Cx} {CX : CXT} {k : Nat} {C p g : Addr} {fd : FuncData} {ps : List Str} {mc : Value} {sp : Sp} {E : XK} {o e : Expr} {es : List Expr} {m : Str} {pos apos : Pos} {ta : TE} {t : TA} {pl : Sem Bool} {pins : List (Addr × Obj)} {σ : L2.St} {H : Hp} {s : Shared}
theorem getsm_ok {A : Around} {E : Value → Shared → Prop} {Q : Value × List Value → Shared → Prop} (I : Inv X pins σ H s) (r : ClX.CRead X.K C mc) (c : SMet X.K C mc m p g) (h : ∀ s', Inv X pins σ H s' → Q (.ref g, []) s') :
    wpAny (model X.prog X.w) A (getMethod (.ref C) m pl) Q E s := by
  obtain ⟨rest, hp⟩ := c.rc
  refine PySem.W.method_cls I.kIn r.ga (PySem.W.cls_bind I.kIn r.rd c.at_ (wpAny_call ?_))
  exact PySem.W.sm_get (s := { s with toks := s.toks + 1 }) I.kIn hp (PySem.W.handed_on rfl (h _ (I.tok _)))
/-- C.m(e, ..) -/
def tSM (C : Addr) (sp : Sp) (E : XK) (ta : TE) (t : TA) : TE := fun σ H Q => ta σ H fun x H1 => x = .ref C ∧ t σ H1 fun vs H2 => sp vs H2 Q E
theorem pe_sm (he : PE X o ta) (r : ClX.CRead X.K C mc) (c : SMet X.K C mc m p g) (F : FnOk X.prog X.w X.K X.mg X.base CX k g fd ps sp) (hr : Room k X.A) (hb : Binds X.K fd ps []) (hx : Passes CX X E) (ha : PA X (e :: es) t)
    (hs : starEach (e :: es) X.env = (false, eval e X.env) :: starEach es X.env := by rfl) (np : (backTo pos (starEach es X.env)).any (·.1) = false := by rfl)
    (ht : eval (.Call (.Attribute o m apos) (e :: es) [] pos) X.env = (do
      let ov ← eval o X.env
      standAt apos.atName
      let (f, first) ← holding [ov] (getMethod ov m pl)
      callWith pos f first (backTo pos (starEach (e :: es) X.env)) (backToKw pos (keywordEach [] X.env))) := by rfl) :
    PE X (.Call (.Attribute o m apos) (e :: es) [] pos) (tSM C sp E ta t) := by
  refine ⟨fun pins s σ H Q I h => PySem.W.methodCall_KW (pl := pl) (thn (he.run pins s σ H _ I h) fun u s1 z => ?_) ht⟩
  obtain ⟨x, H1, I1, rx, rfl, q⟩ := z
  cases rx
  refine getsm_ok I1 r c fun s2 I2 => ?_
  refine PySem.W.callWith_K (h₀ := X.base) I2.ok.mod.kin c.kp (thn (ha.run pos pins s2 σ H1 _ I2 q) fun us s3 z => ?_) hs np
  obtain ⟨vs, H2, I3, rv, q2⟩ := z
  exact ⟨I3.kIn, run_fn1 rfl F hr hb hx I3 rv q2⟩
theorem pe_sm0 (he : PE X o ta) (r : ClX.CRead X.K C mc) (c : SMet X.K C mc m p g) (F : FnOk X.prog X.w X.K X.mg X.base CX k g fd ps sp) (hr : Room k X.A) (hb : Binds X.K fd ps []) (hx : Passes CX X E)
    (ht : eval (.Call (.Attribute o m apos) [] [] pos) X.env = (do
      let ov ← eval o X.env
      standAt apos.atName
      let (f, first) ← holding [ov] (getMethod ov m pl)
      callWith pos f first (backTo pos (starEach [] X.env)) (backToKw pos (keywordEach [] X.env))) := by rfl) :
    PE X (.Call (.Attribute o m apos) [] [] pos) (tSM C sp E ta tNil) := by
  refine ⟨fun pins s σ H Q I h => PySem.W.methodCall_KW (pl := pl) (thn (he.run pins s σ H _ I h) fun u s1 z => ?_) ht⟩
  obtain ⟨x, H1, I1, rx, rfl, q⟩ := z
  cases rx
  refine getsm_ok I1 r c fun s2 I2 => ?_
  exact PySem.W.callWith_K0 I2.kIn c.kp (run_fn1 (us := []) rfl F hr hb hx I2 .nil q)
end
end TK
/-! Own toolkit, part Lb: what the top has left, with the defs inside staticmethods and properties. -/
namespace TK
open PySem PySem.Spec PyProof.Rows L2
/-- the function object that stands there -/
def fdA (K : PySem.W.Frag) (a : Addr) : FuncData := match K.lookup a with
  | some ⟨_, _, .func fd, _⟩ => fd
  | _ => fdNo
theorem fdA_eq {K : PySem.W.Frag} {f : Addr} {x qual : Str} {a : Arguments} {b : List Stmt} {sc : Scope} {dvs : List V} {kws : List (Str × V)} {fd : FuncData} (F : FunD K x qual a b sc dvs kws f fd) : fdA K f = fd := by
  obtain ⟨oc, od, dV, kV, doc, pm, an, cdv, ct, osl, e, lk, _⟩ := F.ex
  unfold fdA
  rw [lk]
abbrev AlS : Type := AlN × (Bool × List He.FnW)
def obsW (fs : List He5.DefA) (K : PySem.W.Frag) : Bool × List He.FnW := (fs.all fun d => d.ok K, fs.map fun d => He5.fnA K (d.at_ K))
def valW (fs : List He5.DefA) : Bool × List He.FnW := (true, fs.map He5.DefA.val)
def obsS (n : Nat) (fa : List He.Fa) (fn : List He.DefD) (ex : Ex) (fi : List IniD) (fs : List He5.DefA) (g : Addr → Option Obj) : AlS :=
  (((He.obsD fa fn (He.frG g (asN g n)), exB ex (He.frG g (asN g n))), fi.map fun d => iniW (He.frG g (asN g n)) d.cls), obsW fs (He.frG g (asN g n)))
structure FactsS (fa : List He.Fa) (fn : List He.DefD) (ex : Ex) (fi : List IniD) (fs : List He5.DefA) (K : PySem.W.Frag) (mg : Str → Option Value) : Prop where
  n : FactsN fa fn ex fi K mg
  st : obsW fs K = valW fs
def hookS (n : Nat) (fa : List He.Fa) (fn : List He.DefD) (ex : Ex) (fi : List IniD) (fs : List He5.DefA) : PySem.W.Hook where
  α := AlS
  obs := fun s => obsS n fa fn ex fi fs s.heap.get?
  val := fun _ => (((He.valD fn, true), fi.map IniD.val), valW fs)
  says := fun _ h => ∃ K : PySem.W.Frag, K.In h ∧ (He.SaysD fa fn K ∧ exB ex K = true ∧ (fi.map fun d => iniW K d.cls) = fi.map IniD.val) ∧ obsW fs K = valW fs
  of := fun _ _ e => ⟨_, He.frG_in, ⟨congrArg (fun z : AlS => z.1.1.1) e, congrArg (fun z : AlS => z.1.1.2) e, congrArg (fun z : AlS => z.1.2) e⟩, congrArg (fun z : AlS => z.2) e⟩
  keeps := fun _ _ _ ⟨K, hK, c⟩ k => ⟨K, PySem.W.Frag.In.keeps hK k, c⟩
theorem obsS_eq {n : Nat} {fa : List He.Fa} {fn : List He.DefD} {ex : Ex} {fi : List IniD} {fs : List He5.DefA} {g : Addr → Option Obj} {s : Shared} (h : ∀ a, g a = s.heap.get? a) : obsS n fa fn ex fi fs g = (hookS n fa fn ex fi fs).obs s := by
  obtain rfl : g = s.heap.get? := funext h
  rfl
section
variable {fa : List He.Fa} {fn : List He.DefD} {ex : Ex} {fi : List IniD} {fs : List He5.DefA} {K : PySem.W.Frag} {mg : Str → Option Value}
theorem FactsS.b (T : FactsS fa fn ex fi fs K mg) : Facts fa fn ex K mg := T.n.b
theorem FactsS.stat (T : FactsS fa fn ex fi fs K mg) (i : Nat) (d : He5.DefA) (h : fs[i]? = some d := by rfl) : FunD K d.name d.qual d.params d.body d.scope (d.dvs K) (d.kws K) (d.at_ K) (fdA K (d.at_ K)) := by
  have a : (fs.all fun d => d.ok K) = true := congrArg (fun z : Bool × List He.FnW => z.1) T.st
  have e : (fs.map fun d => He5.fnA K (d.at_ K)) = fs.map He5.DefA.val := congrArg (fun z : Bool × List He.FnW => z.2) T.st
  have e2 : (fs.map fun d => He5.fnA K (d.at_ K))[i]? = (fs.map He5.DefA.val)[i]? := by rw [e]
  rw [List.getElem?_map, List.getElem?_map, h] at e2
  obtain ⟨fd, F⟩ := He5.DefA.funD (Option.some.inj e2) (List.all_eq_true.mp a d (List.mem_of_getElem? h))
  rw [fdA_eq F]
  exact F
end
/-- a class's attributes are read plainly -/
def creadB (K : PySem.W.Frag) (C : Addr) : Bool := PySem.W.readsIn K C (.type "type") && decide (PySem.W.specialIn K (.ref C) "__getattribute__" = some (some (.builtin "type.__getattribute__")))
theorem cread_ok {K : PySem.W.Frag} {C : Addr} (h : creadB K C = true) : ClX.CRead K C (.type "type") := let ⟨a, b⟩ := ba2 h; ⟨a, of_decide_eq_true b⟩
theorem smet_ok {K : PySem.W.Frag} {C : Addr} {m : Str} (h : He5.wrapB K C "staticmethod" "staticmethod.__get__" m = true) (k : PySem.W.keepIn K (.ref (He5.wf K C "staticmethod" m)) = true) : SMet K C (.type "type") m (He.ma K C m) (He5.wf K C "staticmethod" m) :=
  let ⟨a, b⟩ := He5.wrapB_ok h; ⟨a, b, k⟩
def propB (K : PySem.W.Frag) (C : Addr) (f : Str) : Bool := decide (PySem.W.findIn K (.ref C) f = some (some (.ref (He.ma K C f)))) && (decide (PySem.W.specialIn K (.ref (He.ma K C f)) "__get__" = some (some (.builtin "property.__get__"))) &&
  (decide (PySem.W.takesIn K (.ref (He.ma K C f)) = some true) && (match PySem.W.recIn K (He.ma K C f) "property" with
    | some (.ref _ :: _) => true
    | _ => false)))
theorem prop_ok {K : PySem.W.Frag} {C : Addr} {f : Str} (h : propB K C f = true) : PropOf K C f (He.ma K C f) (He5.wf K C "property" f) := by
  obtain ⟨a, h⟩ := ba2 h
  obtain ⟨b, h⟩ := ba2 h
  obtain ⟨c, d⟩ := ba2 h
  refine ⟨of_decide_eq_true a, of_decide_eq_true b, of_decide_eq_true c, ?_⟩
  unfold He5.wf
  split at d
  · rename_i f r e
    exact ⟨r, by rw [e]⟩
  · cases d
/-- as row_byN, with them -/
theorem row_byS {l : PySem.W.OpenLaw} {i : Nat} {fa : List He.Fa} {fn : List He.DefD} {ex : Ex} {fi : List IniD} {fs : List He5.DefA} {d : DefRec} {k : Nat} {q : Program} {loose : List Str} {XP : (Str → Option Value) → Heap → Prop} {sp : PySem.W.Frag → Sp} {f : PySem.W.Frag → Addr} {fd : PySem.W.Frag → FuncData}
    (hn : l.most = some 63) (hdf : d.params.defaults = []) (hr : Room k callerA) (hdn : d.name = ("law" : Str)) (hf : ∀ K mg, FactsS fa fn ex fi fs K mg → mg ("law" : Str) = some (.ref (f K)))
    (hb : ∀ K mg, FactsS fa fn ex fi fs K mg → ∀ (s : Shared) (u : Value), BindsTo s (fd K) ⟨[u], []⟩ [("script", u)])
    (hsp : ∀ (K : PySem.W.Frag) (H : Hp) (a : Addr) (ns : List Int), ns.length ≤ 63 → Only H → SqL K H a (ns.map V.int) → sp K [.ref a] H (fun v _ => v = .bl true) fun _ _ _ => False)
    (hF : ∀ (w : World) K mg base, FactsS fa fn ex fi fs K mg → FnOk l.prog w K mg base CX0 k (f K) (fd K) ["script"] (sp K)) :
    PySem.W.WalkO q loose XP (hookS i fa fn ex fi fs).says l.row.toRowW d [] (fun f vs => PySem.call f vs) := by
  refine L2.walk_ofE (l := l) (n := 63) (k := k) (x := "script") (CX := L2.CX0) hn (by decide) hdf hr (fun {w mg fa'} h Y G hmg0 => ?_) (fun _ _ _ _ z => z)
  obtain ⟨K, KX, ⟨c, cx, ci⟩, cs⟩ := Y
  have T : FactsS fa fn ex fi fs K mg := ⟨⟨⟨⟨h, KX, G⟩, c, cx⟩, ci⟩, cs⟩
  rw [hdn, hf K mg T] at hmg0
  cases hmg0
  exact ⟨K, fd K, sp K, KX, hb K mg T, hsp K, fun base _ _ => hF w K mg base T⟩
end TK
/-! Own toolkit, part Lc: o1 op o2 of one own class; n * o (o's reflected method answers). -/
namespace TK
open PySem PySem.Spec PyProof.Rows L2
section
open PySem.W PySem.Calls
variable {prog : Program} {w : World} {A : Around} {E : Value → Shared → Prop} {s : Shared} {K : PySem.W.Frag} {x y C f f' : Addr} {ox oy : Obj} {od od' : Option Obj}
theorem bin_same {op : Operator} {Q : Value → Shared → Prop} (X : K.In s.heap) (I : PySem.W.InstAt s.heap x ox C od) (J : PySem.W.InstAt s.heap y oy C od') (hc : PySem.W.selfFirst K C = true)
    (hd : PySem.W.findIn K (.ref C) (PySem.dunder op.info.2) = some (some (.ref f))) (hf : PySem.W.isFn K (.ref f) = true) (h : wpAny (model prog w) A (call (.ref f) [.ref x, .ref y]) (PySem.W.CmpBack Q) E s) : wpAny (model prog w) A (binaryOp op (.ref x) (.ref y)) Q E s := by
  obtain ⟨cd, rest, hcd, hm⟩ := PySem.W.ksp_first hc
  rcases hi : op.info with ⟨sym, nm'⟩
  rw [hi] at hd
  dsimp only at hd
  have one := PySem.W.ksp_try X I hd hf h
  obtain ⟨hh, g, d, tt, os⟩ := s
  have Lx : PySem.W.Looks (model prog w) hh (typeOf (.ref x)) (.ref C) := I.type
  have Ly : PySem.W.Looks (model prog w) hh (typeOf (.ref y)) (.ref C) := J.type
  have Ll : PySem.W.Looks (model prog w) hh (fillsNumberSlot (.ref C) nm') true := PySem.W.fills_K X hcd hm hd
  simp only [binaryOp, hi]
  refine wpAny_holding (wpAny_bind ?_)
  unfold binaryOp1
  refine wpAny_bind (Lx.at (wpAny_bind (Ly.at (wpAny_bind (Ll.at ?_)))))
  have heq : (Value.ref C == Value.ref C) = true := beq_self_eq_true _
  simp only [heq, if_true]
  ksp_lk
  refine wpAny_mono one (fun r s' hr' => ?_) fun _ _ e => e
  obtain ⟨v, rfl, hq⟩ := hr'
  ksp_lk
  exact hq
theorem int_mul_inst (a : Int) (t : Tok) (l C : Addr) (dx : Option Addr) :
    Meets (Builtin.«int.__mul__» ⟨[.int a t, .ref l], []⟩) (fun _ R s => s.heap.get? l = some { cls := .ref C, dict := dx, data := .plain } ∧ R (.ok (.ret Value.notImplemented)) s) :=
  .of_wp fun prog w A R s h => by
    obtain ⟨hp, g, d, tk, os⟩ := s
    obtain ⟨hl, h⟩ := h
    wp_walk
    exact ⟨_, rfl, h⟩
/-- n * o: int's own answer is NotImplemented, o's reflected method answers -/
theorem bin_intL {a : Int} {t : Tok} {dx : Option Addr} {Q : Value → Shared → Prop} (X : K.In s.heap) (I : PySem.W.InstAt s.heap x ox C od) (hx : s.heap.get? x = some { cls := .ref C, dict := dx, data := .plain }) (hc : PySem.W.selfFirst K C = true)
    (hd : PySem.W.findIn K (.ref C) (PySem.dunder "mul") = some (some (.ref f'))) (hs : PySem.W.findIn K (.ref C) (dunderR "mul") = some (some (.ref f))) (hf : PySem.W.isFn K (.ref f) = true) (hb : PySem.W.subIn K (.ref C) (.type "int") = some false)
    (h : wpAny (model prog w) A (call (.ref f) [.ref x, .int a t]) (PySem.W.CmpBack Q) E s) : wpAny (model prog w) A (binaryOp .Mult (.int a t) (.ref x)) Q E s := by
  obtain ⟨cd, rest, hcd, hm⟩ := PySem.W.ksp_first hc
  have one := PySem.W.ksp_try X I hs hf h
  have hT : s.TypeIs (.int a t) "int" := typeIs_int s a t
  obtain ⟨hh, g, d, tt, os⟩ := s
  have La : PySem.W.Looks (model prog w) hh (typeOf (.int a t)) (.type "int") := PySem.W.Looks.of_pure rfl
  have Lx : PySem.W.Looks (model prog w) hh (typeOf (.ref x)) (.ref C) := I.type
  have Ll : PySem.W.Looks (model prog w) hh (fillsNumberSlot (.type "int") "mul") true := PySem.W.Looks.of_pure PySem.F.fills_int_mul
  have Lr : PySem.W.Looks (model prog w) hh (fillsNumberSlot (.ref C) "mul") true := PySem.W.fills_K X hcd hm hd
  have Lb : PySem.W.Looks (model prog w) hh (isSubtype (.ref C) (.type "int")) false := PySem.W.looks_subIn X hb
  have Ln : PySem.W.Looks (model prog w) hh (numberSlotInPython (.type "int") "mul") false := PySem.W.Looks.of_pure rfl
  have hne : (Value.type "int" == Value.ref C) = false := Bool.eq_false_iff.mpr fun q => by cases beq_iff_eq.mp q
  rcases hi : Operator.info .Mult with ⟨sym, nm⟩
  obtain rfl : nm = "mul" := (congrArg Prod.snd hi).symm
  simp only [binaryOp, hi]
  refine wpAny_holding (wpAny_bind ?_)
  unfold binaryOp1
  refine wpAny_bind (La.at (wpAny_bind (Lx.at (wpAny_bind (Ll.at ?_)))))
  simp only [hne, Bool.false_eq_true, if_false]
  refine wpAny_bind (Lr.at ?_)
  simp only [Bool.and_self, if_true]
  refine wpAny_bind (Lb.at ?_)
  simp only [Bool.false_eq_true, if_false, pure_bind, Bool.not_false, Bool.and_self, if_true]
  refine wpAny_bind (Ln.at ?_)
  simp only [Bool.false_eq_true, if_false, pure_bind]
  refine wpAny_bind (wpAny_tryMethod_declines hT PySem.F.slot_int_mul (call_meets PySem.F.slot_int_mul hT PySem.F.entry_int_mul (PySem.F.args_int_mul_2 _ _) (int_mul_inst a t x C dx) ⟨hx, rfl, ?_⟩))
  refine wpAny_bind (wpAny_mono one (fun r s' z => ?_) fun _ _ e => e)
  obtain ⟨v, rfl, hq⟩ := z
  exact wpAny_bind (wpAny_rule (wpAny_pure (wpAny_pure hq)))
end
section
variable {X : Cx} {CX : CXT} {k : Nat} {C f g : Addr} {fd : FuncData} {ps : List Str} {sp : Sp} {pins : List (Addr × Obj)} {σ : L2.St} {H : Hp} {s : Shared}
/-- o1 op o2 of one class -/
def rSameO (C : Addr) (sp : Sp) (E : XK) : R2 := fun x y H Q => ∃ p q dx fs dy gs, x = .ref p ∧ y = .ref q ∧ H p = some (.ins C dx fs) ∧ H q = some (.ins C dy gs) ∧ sp [.ref p, .ref q] H Q E
theorem op_sameO {op : Operator} {E : XK} (m : Meth X.K C (PySem.dunder op.info.2) f) (hc : PySem.W.selfFirst X.K C = true) (F : FnOk X.prog X.w X.K X.mg X.base CX k f fd ps sp) (hr : Room k X.A) (hb : Binds X.K fd ps []) (hx : Passes CX X E) : OpR X (binaryOp op) (rSameO C sp E) := by
  intro pins s σ H x y v u Q I rx ry h
  obtain ⟨p, q, dx, fs, dy, gs, rfl, rfl, ep, eq, hs⟩ := h
  cases rx
  cases ry
  obtain ⟨od, J⟩ := inst_at I ep
  obtain ⟨od', J'⟩ := inst_at I eq
  exact bin_same I.kIn J J' hc m.at_ m.fn (wpAny_mono (run_fn1 (A' := X.A) rfl F hr hb hx I (.cons (vref _) (.cons (vref _) .nil)) hs) (fun _ _ z => cmp_back z) fun _ _ z => z)
/-- n * o, in a try -/
def tIntL (C : Addr) (sp : Sp) (E : L2.St → XK) (ta tb : TE) : TE := fun σ H Q => ta σ H fun x H1 => tb σ H1 fun y H2 => ∃ n p dx fs, x = .int n ∧ y = .ref p ∧ H2 p = some (.ins C dx fs) ∧ sp [.ref p, .int n] H2 Q (E σ)
theorem pe_intL {E : L2.St → XK} {a b : Expr} {ta tb : TE} {pos : Pos} (m0 : Meth X.K C "__mul__" g) (m : Meth X.K C "__rmul__" f) (hc : PySem.W.selfFirst X.K C = true) (hb0 : PySem.W.subIn X.K (.ref C) (.type "int") = some false) (F : FnOk X.prog X.w X.K X.mg X.base CX k f fd ps sp) (hr : Room k X.A) (hb : Binds X.K fd ps [])
    (hx : ∀ σ, PassesAt CX X σ (E σ)) (ea : PE X a ta) (eb : PE X b tb) : PE X (.BinOp a .Mult b pos) (tIntL C sp E ta tb) := by
  refine ⟨fun pins s σ H Q I h => wpAny_BinOp (binT ea eb I h fun v u s2 x y H2 I2 rx ry z => ?_)⟩
  obtain ⟨n, p, dx, fs, rfl, rfl, ep, hs⟩ := z
  cases ry
  obtain ⟨t, rfl⟩ := rx
  obtain ⟨mA, O, _⟩ := ins_get I2.hok ep
  obtain ⟨od, J⟩ := inst_at I2 ep
  exact bin_intL I2.kIn J O.obj hc m0.at_ m.at_ m.fn hb0 (wpAny_mono (run_at (A' := X.A) rfl F hr hb (hx σ) I2 (.cons (vref _) (.cons (show RelV (.int n) (Value.int n t) from ⟨t, rfl⟩) .nil)) hs) (fun _ _ z => cmp_back z) fun _ _ z => z)
end
section
/-- a target of several names, within a comprehension -/
theorem pg_tupK {X : Cx} {K : PySem.W.Frag} {es : List Expr} {k : Nat} {t : TGs} {n : Nat} {pos : Pos} (hc : X.calm = true) (h : PGs X es t) (hK : X.K = K := by rfl) (hn : (assignEach es X.env).length = n := by rfl) (hst : (assignEach es X.env).findIdx? (·.1) = none := by rfl) : PG X (.Tuple es k pos) (gTup K n t) := by
  subst hK
  exact pg_tup hc h hn hst
end
end TK
/-! Own toolkit, part k: in a try, own classes called, o[i] and o(x) of own objects. -/
namespace TK
open PySem PySem.Spec PyProof.Rows L2
section
variable {X : Cx} {CX : CXT} {k : Nat} {C f : Addr} {fd : FuncData} {ps : List Str} {sp : Sp} {pins : List (Addr × Obj)} {σ : L2.St} {H : Hp} {s : Shared}
theorem make_at {Q : VK} {E : XK} {us : List Value} {vs : List V} (mk : Mk X.K C f) (F : FnOk X.prog X.w X.K X.mg X.base CX k f fd ps sp) (room : Room (k + 1) X.A) (bd : Binds X.K fd ps []) (hx : PassesAt CX X σ E) (I : Inv X pins σ H s) (r : Vals vs us)
    (q : ∀ x dx, H x = none → H dx = none → dx ≠ x → sp (.ref x :: (vs ++ [])) (upd (upd H dx (.own x)) x (.ins C dx [])) (fun v H2 => v = .non ∧ Q (.ref x) H2) E) :
    wpAny (model X.prog X.w) X.A (call (.ref C) us) (EP X pins σ Q) X.xe s := by
  have q0 := q (s.heap.objs.size + 1) s.heap.objs.size (I.hok.fresh (Nat.le_succ _)) (I.hok.fresh (Nat.le_refl _)) (Nat.ne_of_lt (Nat.lt_succ_self _))
  have J := Inv.made (C := C) I
  have rr : Vals (V.ref (s.heap.objs.size + 1) :: (vs ++ [])) (Value.ref (s.heap.objs.size + 1) :: us) := .cons rfl (by rw [List.append_nil]; exact r)
  have many : ((Value.ref (s.heap.objs.size + 1) :: us) ++ []).length = ps.length := by
    rw [List.append_nil, ← rr.length]
    exact F.len _ _ _ _ q0
  have bound := bd _ (Value.ref (s.heap.objs.size + 1) :: us) J.kIn many
  rw [List.append_nil] at bound
  have run := F.run _ X.stack _ _ ⟨Value.ref (s.heap.objs.size + 1) :: us, []⟩ _ _ _ E (room.make C us []) (J.env0.make C us []) bound rr q0
  refine wpAny_call (make_map (f := f) I.kIn mk.makes mk.init (beq_iff_eq.mp mk.fn) (codeAny_mono run fun out s' z => ?_))
  cases out with
  | error e => exact hx pins _ _ e s' J z
  | ok fl =>
    cases fl with
    | ret u =>
      obtain ⟨v, H', I3, rv, e, z2⟩ := J.after z
      subst e
      exact ⟨rv, V.ref (s.heap.objs.size + 1), H', I3, rfl, z2⟩
    | next => exact z.elim
    | brk => exact z.elim
    | cont => exact z.elim
/-- C(e, ..) in a try -/
def tMakeS (C : Addr) (sp : Sp) (E : L2.St → XK) (t : TA) : TE := fun σ H Q => t σ H fun vs H1 => ∀ x dx, H1 x = none → H1 dx = none → dx ≠ x → sp (.ref x :: (vs ++ [])) (upd (upd H1 dx (.own x)) x (.ins C dx [])) (fun v H2 => v = .non ∧ Q (.ref x) H2) (E σ)
theorem pe_makeS {E : L2.St → XK} {x : Str} {p pos : Pos} {e : Expr} {es : List Expr} {t : TA} (mk : Mk X.K C f) (F : FnOk X.prog X.w X.K X.mg X.base CX k f fd ps sp) (room : Room (k + 1) X.A) (hg : Gl X x) (hm : X.mg x = some (.ref C)) (bd : Binds X.K fd ps []) (hx : ∀ σ, PassesAt CX X σ (E σ))
    (ha : PA X (e :: es) t) (nd : (x == ("__debug__" : Str)) = false := by decide) (he : starEach (e :: es) X.env = (false, eval e X.env) :: starEach es X.env := by rfl) (pl : (backTo pos (starEach es X.env)).any (·.1) = false := by rfl) : PE X (.Call (.Name x p) (e :: es) [] pos) (tMakeS C sp E t) := by
  refine ⟨fun pins s σ H Q I h => wpAny_Call_Name_kw (ld_glob I hg hm ?_ nd)⟩
  refine PySem.W.callWith_K (h₀ := X.base) I.ok.mod.kin mk.kp (thn (ha.run pos pins s σ H _ I h) fun us s1 z => ?_) he pl
  obtain ⟨vs, H1, I1, r, q⟩ := z
  exact ⟨I1.kIn, make_at mk F room bd (hx σ) I1 r q⟩
/-- o[i] in a try -/
def tIxS (C : Addr) (sp : Sp) (E : L2.St → XK) (ta tb : TE) : TE := fun σ H Q => ta σ H fun x H1 => tb σ H1 fun y H2 => rDun C sp (E σ) x y H2 Q
theorem pe_ixS {E : L2.St → XK} {a b : Expr} {ta tb : TE} {pos : Pos} (m : Meth X.K C "__getitem__" f) (hfn : PySem.W.fnIn X.K f = true) (F : FnOk X.prog X.w X.K X.mg X.base CX k f fd ps sp) (hr : Room (k + 1) X.A) (hb : Binds X.K fd ps []) (hx : ∀ σ, PassesAt CX X σ (E σ))
    (ea : PE X a ta) (eb : PE X b tb) (hs : ∀ v u, subscripted b true v u = runValue (.builtin "lifetime.subscript" ⟨[v, u], []⟩) := by intro _ _; rfl) : PE X (.Subscript a b pos) (tIxS C sp E ta tb) := by
  refine ⟨fun pins s σ H Q I h => Subscript_ (binT ea eb I h fun v u s2 x y H2 I2 rx ry q => ?_)⟩
  obtain ⟨p, dx, fs, rfl, ep, hq⟩ := q
  cases rx
  obtain ⟨od, J⟩ := inst_at I2 ep
  obtain ⟨m0, hF⟩ := I2.fr
  exact PySem.W.sub_K hF I2.ok.mod.kin J m.at_ hfn m.fn (run_at (A' := X.A.in1) rfl F hr.in1 hb (hx σ) I2 (.cons (vref _) (.cons ry .nil)) hq) (hs _ _)
/-- o(e, ..) in a try -/
def tCallS (C : Addr) (sp : Sp) (E : L2.St → XK) (to : TE) (t : TA) : TE := fun σ H Q => to σ H fun y H1 => ∃ a, y = .ref a ∧ t σ H1 fun vs H2 => (∃ dx fs, H2 a = some (.ins C dx fs)) ∧ sp (.ref a :: vs) H2 Q (E σ)
theorem pe_callS' {E : L2.St → XK} {fe e : Expr} {es : List Expr} {to : TE} {t : TA} {pos : Pos} (hf : PE X fe to) (c : StX.CallO X.K C f) (F : FnOk X.prog X.w X.K X.mg X.base CX k f fd ps sp) (hr : Room k X.A) (hb : Binds X.K fd ps []) (hx : ∀ σ, PassesAt CX X σ (E σ)) (ha : PA X (e :: es) t)
    (ht : eval (.Call fe (e :: es) [] pos) X.env = (do callWith pos (← eval fe X.env) [] (backTo pos (starEach (e :: es) X.env)) (backToKw pos (keywordEach [] X.env))) := by rfl)
    (he : starEach (e :: es) X.env = (false, eval e X.env) :: starEach es X.env := by rfl) (pl : (backTo pos (starEach es X.env)).any (·.1) = false := by rfl) : PE X (.Call fe (e :: es) [] pos) (tCallS C sp E to t) := by
  refine ⟨fun pins s σ H Q I h => Call_ (thn (hf.run pins s σ H _ I h) fun u s1 z => ?_) ht⟩
  obtain ⟨y, H1, I1, ry, a, rfl, q⟩ := z
  cases ry
  refine StX.callO_with (thn (ha.run pos pins s1 σ H1 _ I1 q) fun us s2 z => ?_) he pl
  obtain ⟨vs, H2, I2, r, ⟨dx, fs, ea⟩, hq⟩ := z
  obtain ⟨od, J⟩ := inst_at I2 ea
  refine ⟨⟨C, _, _, J, rfl⟩, ?_⟩
  have ra : Vals (V.ref a :: vs) (Value.ref a :: us) := .cons (vref a) r
  have many : ((Value.ref a :: us) ++ []).length = ps.length := by
    rw [List.append_nil, ← ra.length]
    exact F.len _ _ _ _ hq
  have bound := hb s2 (Value.ref a :: us) I2.kIn many
  rw [List.append_nil] at bound
  refine wpAny_call (PySem.W.kco_code I2.kIn J rfl c.at_ c.fn c.fi (codeAny_mono (F.run X.A X.stack s2 H2 ⟨Value.ref a :: us, []⟩ _ _ Q (E σ) hr I2.env0 bound ra hq) fun out s' z => ?_))
  cases out with
  | error e => exact hx σ pins H2 s2 e s' I2 z
  | ok fl =>
    cases fl with
    | ret u => exact I2.after z
    | next => exact z.elim
    | brk => exact z.elim
    | cont => exact z.elim
end
end TK
/-! Own toolkit, part m: tactics for readings. -/
local macro_rules | `(tactic| walk_at "ne") => `(tactic| first | assumption | (apply Ne.symm; assumption) | (refine TK.ne_tag (by assumption) (by assumption) (by exact rfl)) | (refine L2.ne_of_none (by assumption) (by assumption)) | (refine Ne.symm (L2.ne_of_none (by assumption) (by assumption))))
local macro_rules | `(tactic| walk_at "hp") => `(tactic| first | exact L2.upd_same | assumption | (refine Eq.trans (L2.upd_ne (by walk_at "ne")) (by walk_at "hp")))
local macro_rules | `(tactic| walk_at "sq") => `(tactic| first | assumption | (refine L2.SqL.of (by walk_at "hp")) | (refine L2.SqT.of (by walk_at "hp")))
local macro_rules | `(tactic| walk_at "ix") => `(tactic| first | rfl | assumption)
local macro_rules | `(tactic| walk_at "cd") => `(tactic| first | assumption | decide | omega | (dsimp only; omega) | exact Or.inr ⟨by decide, by decide⟩ | exact Or.inl ⟨by omega, by omega⟩ | exact TK.cdiv_of (by omega) (by assumption) | exact TK.cdiv_small (by omega) (by omega) | exact TK.lt_big (by omega) | exact TK.line_big (by assumption) | exact ⟨by decide, by decide, by decide⟩ | exact Nat.le_of_ble_eq_true rfl)
local macro_rules | `(tactic| walk_at "fl") => `(tactic| first | rfl | exact TK.all_flat _ | assumption)
local macro_rules | `(tactic| walk_at "sta") => `(tactic| first | assumption | exact TK.StAt.mono (by assumption) (by assumption))
local macro_rules | `(tactic| walk_at "is") => `(tactic| first | assumption | exact TK.Is.int _ | exact TK.Is.bl _ | exact TK.Is.non | exact TK.Is.str _ (by assumption) | exact TK.Is.mono (by assumption) (by assumption))
local macro_rules | `(tactic| walk_at "kd") => `(tactic| first | decide +kernel | (dsimp only [TK.D.kd]; decide +kernel))
local macro_rules | `(tactic| walk_at "r1") => `(tactic| first
  | refine ⟨_, rfl, ?_⟩
  | refine ⟨rfl, ?_⟩
  | refine ⟨_, _, rfl, rfl, by walk_at "cd", ?_⟩
  | refine ⟨_, _, rfl, rfl, ?_⟩
  | refine .inl ⟨_, rfl, ?_⟩
  | refine .inl ⟨_, _, rfl, rfl, ?_⟩
  | refine .inl ⟨_, _, _, _, rfl, rfl, by walk_at "sq", by walk_at "ix", ?_⟩
  | refine .inr (.inl ⟨_, _, _, _, rfl, rfl, by walk_at "sq", by walk_at "ix", ?_⟩)
  | refine .inr (.inr ⟨_, _, _, rfl, rfl, by walk_at "cd", by walk_at "ix", ?_⟩)
  | refine ⟨_, _, _, _, rfl, rfl, by walk_at "hp", by walk_at "ix", ?_⟩
  | refine .inr ⟨_, _, rfl, .inl (by walk_at "sq"), ?_⟩
  | refine .inr ⟨_, _, rfl, .inr (by walk_at "sq"), ?_⟩
  | refine .inr (.inl ⟨_, _, rfl, rfl, by walk_at "cd", ?_⟩)
  | refine .inr (.inr (.inl ⟨_, _, _, _, rfl, rfl, by walk_at "hp", by walk_at "hp", by walk_at "cd", ?_⟩))
  | refine .inr ⟨_, _, rfl, .inl (by walk_at "sq"), rfl, by walk_at "fl", ?_⟩
  | refine .inr ⟨_, _, rfl, .inr (by walk_at "sq"), rfl, by walk_at "fl", ?_⟩
  | refine ⟨_, _, rfl, by walk_at "sta", .inl ⟨_, rfl, by walk_at "cd", by walk_at "cd", ?_⟩⟩
  | refine ⟨_, _, rfl, by walk_at "sta", .inr ⟨_, _, rfl, by walk_at "hp", by walk_at "cd", by walk_at "cd", ?_⟩⟩
  | refine ⟨⟨_, by walk_at "sq"⟩, ?_⟩
  | refine And.intro (by walk_at "cd") ?_
  | refine ⟨_, _, rfl, by walk_at "sta", by walk_at "cd", by walk_at "cd", ?_⟩
  | refine ⟨_, _, rfl, by walk_at "is", ?_⟩
  | refine L2.iteT ?_
  | refine L2.iteF ?_)
local macro_rules | `(tactic| walk_at "rd") => `(tactic| repeat (walk_at "r1"))
local macro_rules | `(tactic| walk_at "ri1") => `(tactic| first
  | refine TK.cb_isi (b := true) rfl (by walk_at "is") (by walk_at "kd") ?_
  | refine TK.cb_isi (b := false) rfl (by walk_at "is") (by walk_at "kd") ?_
  | walk_at "r1")
local macro_rules | `(tactic| walk_at "rdi") => `(tactic| repeat (walk_at "ri1"))
namespace K13
open PySem PySem.Spec PyProof.Rows L2 TK
def top (i : Nat) : Stmt := PySem.Challenge.pw_takenorelse_k13_change_many_times.main.body.getD i (.Pass ⟨0, 0, 0, 0⟩)
abbrev s_is_name : Stmt := top 18
theorem sc_is_name : FnScope ["text", "char"] ["text"] (defScope s_is_name) := ⟨rfl, rfl, rfl, by decide +kernel, rfl, by decide +kernel, by decide +kernel⟩
abbrev at_is_name : Str × Option Str := ("is_name", none)
def d_is_name : He.DefD := ⟨at_is_name, "is_name", "is_name", defArgs s_is_name, defBody s_is_name, defScope s_is_name, [], []⟩
abbrev s_check_name : Stmt := top 19
theorem sc_check_name : FnScope ["text"] ["text"] (defScope s_check_name) := ⟨rfl, rfl, rfl, by decide +kernel, rfl, by decide +kernel, by decide +kernel⟩
abbrev at_check_name : Str × Option Str := ("check_name", none)
def d_check_name : He.DefD := ⟨at_check_name, "check_name", "check_name", defArgs s_check_name, defBody s_check_name, defScope s_check_name, [], []⟩
abbrev s_check_number : Stmt := top 20
theorem sc_check_number : FnScope ["value"] ["value"] (defScope s_check_number) := ⟨rfl, rfl, rfl, by decide +kernel, rfl, by decide +kernel, by decide +kernel⟩
abbrev at_check_number : Str × Option Str := ("check_number", none)
def d_check_number : He.DefD := ⟨at_check_number, "check_number", "check_number", defArgs s_check_number, defBody s_check_number, defScope s_check_number, [], []⟩
abbrev s_joined_assignment : Stmt := top 30
theorem sc_joined_assignment : FnScope ["before", "after"] ["before", "after"] (defScope s_joined_assignment) := ⟨rfl, rfl, rfl, by decide +kernel, rfl, by decide +kernel, by decide +kernel⟩
abbrev at_joined_assignment : Str × Option Str := ("joined_assignment", none)
def d_joined_assignment : He.DefD := ⟨at_joined_assignment, "joined_assignment", "joined_assignment", defArgs s_joined_assignment, defBody s_joined_assignment, defScope s_joined_assignment, [], []⟩
abbrev s_chained : Stmt := top 31
theorem sc_chained : FnScope ["first", "second", "row", "later", "known", "rows"] ["first", "second"] (defScope s_chained) := ⟨rfl, rfl, rfl, by decide +kernel, rfl, by decide +kernel, by decide +kernel⟩
abbrev at_chained : Str × Option Str := ("chained", none)
def d_chained : He.DefD := ⟨at_chained, "chained", "chained", defArgs s_chained, defBody s_chained, defScope s_chained, [], []⟩
abbrev s_repeated : Stmt := top 32
theorem sc_repeated : FnScope ["rows", "times", "field", "deed", "number"] ["rows", "times"] (defScope s_repeated) := ⟨rfl, rfl, rfl, by decide +kernel, rfl, by decide +kernel, by decide +kernel⟩
abbrev at_repeated : Str × Option Str := ("repeated", none)
def d_repeated : He.DefD := ⟨at_repeated, "repeated", "repeated", defArgs s_repeated, defBody s_repeated, defScope s_repeated, [], []⟩
abbrev s_ChangeU_initU : Stmt := inClass (top 34) 1
theorem sc_ChangeU_initU : FnScope ["self", "rows"] ["self", "rows"] (defScope s_ChangeU_initU) := ⟨rfl, rfl, rfl, by decide +kernel, rfl, by decide +kernel, by decide +kernel⟩
abbrev at_ChangeU_initU : Str × Option Str := ("Change", some "__init__")
def d_ChangeU_initU : He.DefD := ⟨at_ChangeU_initU, "__init__", "Change.__init__", defArgs s_ChangeU_initU, defBody s_ChangeU_initU, defScope s_ChangeU_initU, [], []⟩
abbrev s_ChangeU_callU : Stmt := inClass (top 34) 9
theorem sc_ChangeU_callU : FnScope ["self", "content", "field", "result", "deed", "number"] ["self", "content"] (defScope s_ChangeU_callU) := ⟨rfl, rfl, rfl, by decide +kernel, rfl, by decide +kernel, by decide +kernel⟩
abbrev at_ChangeU_callU : Str × Option Str := ("Change", some "__call__")
def d_ChangeU_callU : He.DefD := ⟨at_ChangeU_callU, "__call__", "Change.__call__", defArgs s_ChangeU_callU, defBody s_ChangeU_callU, defScope s_ChangeU_callU, [], []⟩
abbrev s_ChangeU_rshiftU : Stmt := inClass (top 34) 10
theorem sc_ChangeU_rshiftU : FnScope ["self", "other"] ["self", "other"] (defScope s_ChangeU_rshiftU) := ⟨rfl, rfl, rfl, by decide +kernel, rfl, by decide +kernel, by decide +kernel⟩
abbrev at_ChangeU_rshiftU : Str × Option Str := ("Change", some "__rshift__")
def d_ChangeU_rshiftU : He.DefD := ⟨at_ChangeU_rshiftU, "__rshift__", "Change.__rshift__", defArgs s_ChangeU_rshiftU, defBody s_ChangeU_rshiftU, defScope s_ChangeU_rshiftU, [], []⟩
abbrev s_ChangeU_mulU : Stmt := inClass (top 34) 11
theorem sc_ChangeU_mulU : FnScope ["self", "times"] ["self", "times"] (defScope s_ChangeU_mulU) := ⟨rfl, rfl, rfl, by decide +kernel, rfl, by decide +kernel, by decide +kernel⟩
abbrev at_ChangeU_mulU : Str × Option Str := ("Change", some "__mul__")
def d_ChangeU_mulU : He.DefD := ⟨at_ChangeU_mulU, "__mul__", "Change.__mul__", defArgs s_ChangeU_mulU, defBody s_ChangeU_mulU, defScope s_ChangeU_mulU, [], []⟩
abbrev s_ChangeU_rmulU : Stmt := inClass (top 34) 12
theorem sc_ChangeU_rmulU : FnScope ["self", "times"] ["self", "times"] (defScope s_ChangeU_rmulU) := ⟨rfl, rfl, rfl, by decide +kernel, rfl, by decide +kernel, by decide +kernel⟩
abbrev at_ChangeU_rmulU : Str × Option Str := ("Change", some "__rmul__")
def d_ChangeU_rmulU : He.DefD := ⟨at_ChangeU_rmulU, "__rmul__", "Change.__rmul__", defArgs s_ChangeU_rmulU, defBody s_ChangeU_rmulU, defScope s_ChangeU_rmulU, [], []⟩
abbrev s_law_state : Stmt := top 36
theorem sc_law_state : FnScope ["script"] ["script"] (defScope s_law_state) := ⟨rfl, rfl, rfl, by decide +kernel, rfl, by decide +kernel, by decide +kernel⟩
abbrev at_law_state : Str × Option Str := ("_law_state", none)
def d_law_state : He.DefD := ⟨at_law_state, "_law_state", "_law_state", defArgs s_law_state, defBody s_law_state, defScope s_law_state, [], []⟩
abbrev s_law_draw : Stmt := top 37
theorem sc_law_draw : FnScope ["state", "many", "digit", "first", "second", "third"] ["state", "many"] (defScope s_law_draw) := ⟨rfl, rfl, rfl, by decide +kernel, rfl, by decide +kernel, by decide +kernel⟩
abbrev at_law_draw : Str × Option Str := ("_law_draw", none)
def d_law_draw : He.DefD := ⟨at_law_draw, "_law_draw", "_law_draw", defArgs s_law_draw, defBody s_law_draw, defScope s_law_draw, [], []⟩
abbrev s_law_pick : Stmt := top 38
theorem sc_law_pick : FnScope ["state", "row"] ["state", "row"] (defScope s_law_pick) := ⟨rfl, rfl, rfl, by decide +kernel, rfl, by decide +kernel, by decide +kernel⟩
abbrev at_law_pick : Str × Option Str := ("_law_pick", none)
def d_law_pick : He.DefD := ⟨at_law_pick, "_law_pick", "_law_pick", defArgs s_law_pick, defBody s_law_pick, defScope s_law_pick, [], []⟩
abbrev s_law_mixed : Stmt := top 39
theorem sc_law_mixed : FnScope ["state", "row", "rest", "result", "k", "at"] ["state", "row"] (defScope s_law_mixed) := ⟨rfl, rfl, rfl, by decide +kernel, rfl, by decide +kernel, by decide +kernel⟩
abbrev at_law_mixed : Str × Option Str := ("_law_mixed", none)
def d_law_mixed : He.DefD := ⟨at_law_mixed, "_law_mixed", "_law_mixed", defArgs s_law_mixed, defBody s_law_mixed, defScope s_law_mixed, [], []⟩
abbrev s_law_number : Stmt := top 40
theorem sc_law_number : FnScope ["state", "kind"] ["state"] (defScope s_law_number) := ⟨rfl, rfl, rfl, by decide +kernel, rfl, by decide +kernel, by decide +kernel⟩
abbrev at_law_number : Str × Option Str := ("_law_number", none)
def d_law_number : He.DefD := ⟨at_law_number, "_law_number", "_law_number", defArgs s_law_number, defBody s_law_number, defScope s_law_number, [], []⟩
abbrev s_law_constant : Stmt := top 41
theorem sc_law_constant : FnScope ["state"] ["state"] (defScope s_law_constant) := ⟨rfl, rfl, rfl, by decide +kernel, rfl, by decide +kernel, by decide +kernel⟩
abbrev at_law_constant : Str × Option Str := ("_law_constant", none)
def d_law_constant : He.DefD := ⟨at_law_constant, "_law_constant", "_law_constant", defArgs s_law_constant, defBody s_law_constant, defScope s_law_constant, [], []⟩
abbrev s_law_names : Stmt := top 42
theorem sc_law_names : FnScope ["state", "many", "letters", "style", "shift", "code", "spot", "base", "k", "reserved", "result", "word"] ["state", "many"] (defScope s_law_names) := ⟨rfl, rfl, rfl, by decide +kernel, rfl, by decide +kernel, by decide +kernel⟩
abbrev at_law_names : Str × Option Str := ("_law_names", none)
def d_law_names : He.DefD := ⟨at_law_names, "_law_names", "_law_names", defArgs s_law_names, defBody s_law_names, defScope s_law_names, [], []⟩
abbrev s_law_is_int : Stmt := top 43
theorem sc_law_is_int : FnScope ["thing"] ["thing"] (defScope s_law_is_int) := ⟨rfl, rfl, rfl, by decide +kernel, rfl, by decide +kernel, by decide +kernel⟩
abbrev at_law_is_int : Str × Option Str := ("_law_is_int", none)
def d_law_is_int : He.DefD := ⟨at_law_is_int, "_law_is_int", "_law_is_int", defArgs s_law_is_int, defBody s_law_is_int, defScope s_law_is_int, [], []⟩
abbrev s_law_same : Stmt := top 44
theorem sc_law_same : FnScope ["actual", "due", "key", "k"] ["actual", "due"] (defScope s_law_same) := ⟨rfl, rfl, rfl, by decide +kernel, rfl, by decide +kernel, by decide +kernel⟩
abbrev at_law_same : Str × Option Str := ("_law_same", none)
def d_law_same : He.DefD := ⟨at_law_same, "_law_same", "_law_same", defArgs s_law_same, defBody s_law_same, defScope s_law_same, [], []⟩
abbrev s_law_changed : Stmt := top 45
theorem sc_law_changed : FnScope ["rows", "content", "result", "row"] ["rows", "content"] (defScope s_law_changed) := ⟨rfl, rfl, rfl, by decide +kernel, rfl, by decide +kernel, by decide +kernel⟩
abbrev at_law_changed : Str × Option Str := ("_law_changed", none)
def d_law_changed : He.DefD := ⟨at_law_changed, "_law_changed", "_law_changed", defArgs s_law_changed, defBody s_law_changed, defScope s_law_changed, [], []⟩
abbrev s_law_change : Stmt := top 46
theorem sc_law_change : FnScope ["rows", "result", "row"] ["rows"] (defScope s_law_change) := ⟨rfl, rfl, rfl, by decide +kernel, rfl, by decide +kernel, by decide +kernel⟩
abbrev at_law_change : Str × Option Str := ("_law_change", none)
def d_law_change : He.DefD := ⟨at_law_change, "_law_change", "_law_change", defArgs s_law_change, defBody s_law_change, defScope s_law_change, [], []⟩
abbrev s_law_some_rows : Stmt := top 47
theorem sc_law_some_rows : FnScope ["state", "fields", "rows", "field"] ["state", "fields"] (defScope s_law_some_rows) := ⟨rfl, rfl, rfl, by decide +kernel, rfl, by decide +kernel, by decide +kernel⟩
abbrev at_law_some_rows : Str × Option Str := ("_law_some_rows", none)
def d_law_some_rows : He.DefD := ⟨at_law_some_rows, "_law_some_rows", "_law_some_rows", defArgs s_law_some_rows, defBody s_law_some_rows, defScope s_law_some_rows, [], []⟩
abbrev s_law_do : Stmt := top 48
theorem sc_law_do : FnScope ["made", "times", "ahead", "e"] ["made", "times", "ahead"] (defScope s_law_do) := ⟨rfl, rfl, rfl, by decide +kernel, rfl, by decide +kernel, by decide +kernel⟩
abbrev at_law_do : Str × Option Str := ("_law_do", none)
def d_law_do : He.DefD := ⟨at_law_do, "_law_do", "_law_do", defArgs s_law_do, defBody s_law_do, defScope s_law_do, [], []⟩
abbrev s_law_repeated : Stmt := top 49
theorem sc_law_repeated : FnScope ["rows", "times", "result", "row"] ["rows", "times"] (defScope s_law_repeated) := ⟨rfl, rfl, rfl, by decide +kernel, rfl, by decide +kernel, by decide +kernel⟩
abbrev at_law_repeated : Str × Option Str := ("_law_repeated", none)
def d_law_repeated : He.DefD := ⟨at_law_repeated, "_law_repeated", "_law_repeated", defArgs s_law_repeated, defBody s_law_repeated, defScope s_law_repeated, [], []⟩
abbrev s_law_after : Stmt := top 50
theorem sc_law_after : FnScope ["rows", "times", "content", "result", "k"] ["rows", "times", "content"] (defScope s_law_after) := ⟨rfl, rfl, rfl, by decide +kernel, rfl, by decide +kernel, by decide +kernel⟩
abbrev at_law_after : Str × Option Str := ("_law_after", none)
def d_law_after : He.DefD := ⟨at_law_after, "_law_after", "_law_after", defArgs s_law_after, defBody s_law_after, defScope s_law_after, [], []⟩
abbrev s_law_repeats : Stmt := top 51
theorem sc_law_repeats : FnScope ["made", "rows", "times", "content", "due", "effect"] ["made", "rows", "times", "content"] (defScope s_law_repeats) := ⟨rfl, rfl, rfl, by decide +kernel, rfl, by decide +kernel, by decide +kernel⟩
abbrev at_law_repeats : Str × Option Str := ("_law_repeats", none)
def d_law_repeats : He.DefD := ⟨at_law_repeats, "_law_repeats", "_law_repeats", defArgs s_law_repeats, defBody s_law_repeats, defScope s_law_repeats, [], []⟩
abbrev s_law : Stmt := top 52
theorem sc_law : FnScope ["script", "state", "names", "content", "field", "some", "lets", "bad", "rows", "made", "times"] ["script"] (defScope s_law) := ⟨rfl, rfl, rfl, by decide +kernel, rfl, by decide +kernel, by decide +kernel⟩
abbrev at_law : Str × Option Str := ("law", none)
def d_law : He.DefD := ⟨at_law, "law", "law", defArgs s_law, defBody s_law, defScope s_law, [], []⟩
def c_RESERVED : List Str := ["always", "never", "and", "or", "not", "when", "add", "set", "change", "tell", "refuse", "take", "look", "free", "lock", "keep", "keys", "fields"]
def x_RESERVED : PySem.W.Frag → Bool := fun K => He.tupB K "RESERVED" (c_RESERVED.map He.Dv.str)
def c_SIGNS : List Str := ["<", "<=", "==", "!=", ">=", ">"]
def x_SIGNS : PySem.W.Frag → Bool := fun K => He.tupB K "SIGNS" (c_SIGNS.map He.Dv.str)
def PP : Program := (PySem.Challenge.rw_takenorelse_k13_change_many_times).prog
abbrev s_BadNumberI : Stmt := inClass (top 4) 0
def i_BadNumber : IniD := ⟨"BadNumber", "BadNumber.__init__", defArgs s_BadNumberI, defBody s_BadNumberI, defScope s_BadNumberI⟩
theorem nsc_BadNumber : NdefX.NScope ["self", "value", "__class__"] ["self", "value"] ["__class__"] (defScope s_BadNumberI) := NdefX.nscope_by (by decide +kernel)
def xo_BadNumber : PySem.W.Frag → Bool := fun K => ownB K "BadNumber" ["value"]
def xi_BadNumber : PySem.W.Frag → Bool := fun K => iniB PP K i_BadNumber
abbrev s_TooLargeI : Stmt := inClass (top 6) 0
def i_TooLarge : IniD := ⟨"TooLarge", "TooLarge.__init__", defArgs s_TooLargeI, defBody s_TooLargeI, defScope s_TooLargeI⟩
theorem nsc_TooLarge : NdefX.NScope ["self", "most", "__class__"] ["self", "most"] ["__class__"] (defScope s_TooLargeI) := NdefX.nscope_by (by decide +kernel)
def xo_TooLarge : PySem.W.Frag → Bool := fun K => ownB K "TooLarge" ["most"]
def xi_TooLarge : PySem.W.Frag → Bool := fun K => iniB PP K i_TooLarge
def xcr_Change : PySem.W.Frag → Bool := fun K => creadB K (He.ga K "Change")
abbrev s_Change_none : Stmt := inClass (top 34) 2
theorem sc_Change_none : FnScope [] [] (defScope s_Change_none) := ⟨rfl, rfl, rfl, by decide +kernel, rfl, by decide +kernel, by decide +kernel⟩
abbrev at_Change_none : PySem.W.Frag → Addr := fun K => He5.wf K (He.ga K "Change") "staticmethod" "none"
def w_Change_none : He5.DefA := ⟨at_Change_none, "none", "Change.none", defArgs s_Change_none, defBody s_Change_none, defScope s_Change_none, [], []⟩
def xw_Change_none : PySem.W.Frag → Bool := fun K => He5.wrapB K (He.ga K "Change") "staticmethod" "staticmethod.__get__" "none"
abbrev s_Change_adding : Stmt := inClass (top 34) 3
theorem sc_Change_adding : FnScope ["field", "number"] ["field", "number"] (defScope s_Change_adding) := ⟨rfl, rfl, rfl, by decide +kernel, rfl, by decide +kernel, by decide +kernel⟩
abbrev at_Change_adding : PySem.W.Frag → Addr := fun K => He5.wf K (He.ga K "Change") "staticmethod" "adding"
def w_Change_adding : He5.DefA := ⟨at_Change_adding, "adding", "Change.adding", defArgs s_Change_adding, defBody s_Change_adding, defScope s_Change_adding, [], []⟩
def xw_Change_adding : PySem.W.Frag → Bool := fun K => He5.wrapB K (He.ga K "Change") "staticmethod" "staticmethod.__get__" "adding"
abbrev s_Change_setting : Stmt := inClass (top 34) 4
theorem sc_Change_setting : FnScope ["field", "number"] ["field", "number"] (defScope s_Change_setting) := ⟨rfl, rfl, rfl, by decide +kernel, rfl, by decide +kernel, by decide +kernel⟩
abbrev at_Change_setting : PySem.W.Frag → Addr := fun K => He5.wf K (He.ga K "Change") "staticmethod" "setting"
def w_Change_setting : He5.DefA := ⟨at_Change_setting, "setting", "Change.setting", defArgs s_Change_setting, defBody s_Change_setting, defScope s_Change_setting, [], []⟩
def xw_Change_setting : PySem.W.Frag → Bool := fun K => He5.wrapB K (He.ga K "Change") "staticmethod" "staticmethod.__get__" "setting"
abbrev s_Change_assigned : Stmt := inClass (top 34) 6
theorem sc_Change_assigned : FnScope ["self", "row"] ["self"] (defScope s_Change_assigned) := ⟨rfl, rfl, rfl, by decide +kernel, rfl, by decide +kernel, by decide +kernel⟩
abbrev at_Change_assigned : PySem.W.Frag → Addr := fun K => He5.wf K (He.ga K "Change") "property" "assigned"
def w_Change_assigned : He5.DefA := ⟨at_Change_assigned, "assigned", "Change.assigned", defArgs s_Change_assigned, defBody s_Change_assigned, defScope s_Change_assigned, [], []⟩
def xw_Change_assigned : PySem.W.Frag → Bool := fun K => propB K (He.ga K "Change") "assigned"
def xm_first : PySem.W.Frag → Bool := fun K => PySem.W.selfFirst K (He.ga K "Change")
def xm_subint : PySem.W.Frag → Bool := fun K => decide (PySem.W.subIn K (.ref (He.ga K "Change")) (.type "int") = some false)
def xm_mul : PySem.W.Frag → Bool := fun K => binTB K (He.ga K "Change") "mul" "int"
def xm_isfn : PySem.W.Frag → Bool := fun K => PySem.W.isFn K (.ref (He.fAd K ("Change", some "__call__")))
def xm_fnin : PySem.W.Frag → Bool := fun K => PySem.W.fnIn K (He.fAd K ("Change", some "__call__"))
def xm_callat : PySem.W.Frag → Bool := fun K => decide (PySem.W.findIn K (.ref (He.ga K "Change")) "__call__" = some (some (.ref (He.fAd K ("Change", some "__call__")))))
def xk_BadNumber_BadNumber : PySem.W.Frag → Bool := fun K => decide (PySem.W.kitOne K (.ref (He.ga K "BadNumber")) (.ref (He.ga K "BadNumber")) = some true)
def xk_BadNumber_ValueError : PySem.W.Frag → Bool := fun K => decide (PySem.W.kitOne K (.ref (He.ga K "BadNumber")) (.type "ValueError") = some true)
def xk_BadNumber_TooLarge : PySem.W.Frag → Bool := fun K => decide (PySem.W.kitOne K (.ref (He.ga K "BadNumber")) (.ref (He.ga K "TooLarge")) = some false)
def fn : List He.DefD := [d_is_name, d_check_name, d_check_number, d_joined_assignment, d_chained, d_repeated, d_ChangeU_initU, d_ChangeU_callU, d_ChangeU_rshiftU, d_ChangeU_mulU, d_ChangeU_rmulU, d_law_state, d_law_draw, d_law_pick, d_law_mixed, d_law_number, d_law_constant, d_law_names, d_law_is_int, d_law_same, d_law_changed, d_law_change, d_law_some_rows, d_law_do, d_law_repeated, d_law_after, d_law_repeats, d_law]
def fa : List He.Fa := [.glo "is_name", .glo "check_name", .glo "check_number", .glo "joined_assignment", .glo "chained", .glo "repeated", .glo "_law_state", .glo "_law_draw", .glo "_law_pick", .glo "_law_mixed", .glo "_law_number", .glo "_law_constant", .glo "_law_names", .glo "_law_is_int", .glo "_law_same", .glo "_law_changed", .glo "_law_change", .glo "_law_some_rows", .glo "_law_do", .glo "_law_repeated", .glo "_law_after", .glo "_law_repeats", .glo "law", .free "len", .free "isinstance", .free "range", .free "list", .free "int", .free "str", .free "bool", .free "dict", .free "tuple", .free "super", .free "ValueError", .str "LETTERS" "abcdefghijklmnopqrstuvwxyz", .str "DIGITS" "0123456789", .glo "RESERVED", .glo "SIGNS", .int "NAME_LENGTH" 12, .int "MOST_TIMES" 1000, .glo "BadNumber", .glo "TooLarge", .glo "ElseputError", .glo "Change", .cls "Change", .noat "Change" "assignments", .mkr "Change", .meth "Change" "__init__", .meth "Change" "__call__", .meth "Change" "__rshift__", .meth "Change" "__mul__", .meth "Change" "__rmul__", .int "BOUND" 1000000000000000000000000000000, .exm "BadNumber" "ElseputError" true]
def ex : Ex := [x_RESERVED, x_SIGNS, xo_BadNumber, xi_BadNumber, xo_TooLarge, xi_TooLarge, xcr_Change, xw_Change_none, xw_Change_adding, xw_Change_setting, xw_Change_assigned, xm_first, xm_subint, xm_mul, xm_isfn, xm_fnin, xm_callat, xk_BadNumber_BadNumber, xk_BadNumber_ValueError, xk_BadNumber_TooLarge]
def fi : List IniD := [i_BadNumber, i_TooLarge]
def fs : List He5.DefA := [w_Change_none, w_Change_adding, w_Change_setting, w_Change_assigned]
abbrev Tx (K : PySem.W.Frag) (mg : Str → Option Value) : Prop := FactsS fa fn ex fi fs K mg
section
variable {K : PySem.W.Frag} {mg : Str → Option Value}
theorem Tx.F_is_name (T : Tx K mg) : FunD K "is_name" "is_name" (defArgs s_is_name) (defBody s_is_name) (defScope s_is_name) [] [] (He.fAd K at_is_name) (fdOf K at_is_name) := Facts.fun_ T.b 0 d_is_name
theorem Tx.b_is_name (T : Tx K mg) : Binds K (fdOf K at_is_name) ["text"] [] := T.F_is_name.bindsN (ps := ["text"]) fun _ _ _ _ _ _ us hl => match us, hl with | [_], _ => rfl
theorem Tx.m_is_name (T : Tx K mg) : mg "is_name" = some (.ref (He.fAd K at_is_name)) := Facts.glo T.b 0 "is_name"
theorem Tx.F_check_name (T : Tx K mg) : FunD K "check_name" "check_name" (defArgs s_check_name) (defBody s_check_name) (defScope s_check_name) [] [] (He.fAd K at_check_name) (fdOf K at_check_name) := Facts.fun_ T.b 1 d_check_name
theorem Tx.b_check_name (T : Tx K mg) : Binds K (fdOf K at_check_name) ["text"] [] := T.F_check_name.bindsN (ps := ["text"]) fun _ _ _ _ _ _ us hl => match us, hl with | [_], _ => rfl
theorem Tx.m_check_name (T : Tx K mg) : mg "check_name" = some (.ref (He.fAd K at_check_name)) := Facts.glo T.b 1 "check_name"
theorem Tx.F_check_number (T : Tx K mg) : FunD K "check_number" "check_number" (defArgs s_check_number) (defBody s_check_number) (defScope s_check_number) [] [] (He.fAd K at_check_number) (fdOf K at_check_number) := Facts.fun_ T.b 2 d_check_number
theorem Tx.b_check_number (T : Tx K mg) : Binds K (fdOf K at_check_number) ["value"] [] := T.F_check_number.bindsN (ps := ["value"]) fun _ _ _ _ _ _ us hl => match us, hl with | [_], _ => rfl
theorem Tx.m_check_number (T : Tx K mg) : mg "check_number" = some (.ref (He.fAd K at_check_number)) := Facts.glo T.b 2 "check_number"
theorem Tx.F_joined_assignment (T : Tx K mg) : FunD K "joined_assignment" "joined_assignment" (defArgs s_joined_assignment) (defBody s_joined_assignment) (defScope s_joined_assignment) [] [] (He.fAd K at_joined_assignment) (fdOf K at_joined_assignment) := Facts.fun_ T.b 3 d_joined_assignment
theorem Tx.b_joined_assignment (T : Tx K mg) : Binds K (fdOf K at_joined_assignment) ["before", "after"] [] := T.F_joined_assignment.bindsN (ps := ["before", "after"]) fun _ _ _ _ _ _ us hl => match us, hl with | [_, _], _ => rfl
theorem Tx.m_joined_assignment (T : Tx K mg) : mg "joined_assignment" = some (.ref (He.fAd K at_joined_assignment)) := Facts.glo T.b 3 "joined_assignment"
theorem Tx.F_chained (T : Tx K mg) : FunD K "chained" "chained" (defArgs s_chained) (defBody s_chained) (defScope s_chained) [] [] (He.fAd K at_chained) (fdOf K at_chained) := Facts.fun_ T.b 4 d_chained
theorem Tx.b_chained (T : Tx K mg) : Binds K (fdOf K at_chained) ["first", "second"] [] := T.F_chained.bindsN (ps := ["first", "second"]) fun _ _ _ _ _ _ us hl => match us, hl with | [_, _], _ => rfl
theorem Tx.m_chained (T : Tx K mg) : mg "chained" = some (.ref (He.fAd K at_chained)) := Facts.glo T.b 4 "chained"
theorem Tx.F_repeated (T : Tx K mg) : FunD K "repeated" "repeated" (defArgs s_repeated) (defBody s_repeated) (defScope s_repeated) [] [] (He.fAd K at_repeated) (fdOf K at_repeated) := Facts.fun_ T.b 5 d_repeated
theorem Tx.b_repeated (T : Tx K mg) : Binds K (fdOf K at_repeated) ["rows", "times"] [] := T.F_repeated.bindsN (ps := ["rows", "times"]) fun _ _ _ _ _ _ us hl => match us, hl with | [_, _], _ => rfl
theorem Tx.m_repeated (T : Tx K mg) : mg "repeated" = some (.ref (He.fAd K at_repeated)) := Facts.glo T.b 5 "repeated"
theorem Tx.F_ChangeU_initU (T : Tx K mg) : FunD K "__init__" "Change.__init__" (defArgs s_ChangeU_initU) (defBody s_ChangeU_initU) (defScope s_ChangeU_initU) [] [] (He.fAd K at_ChangeU_initU) (fdOf K at_ChangeU_initU) := Facts.fun_ T.b 6 d_ChangeU_initU
theorem Tx.b_ChangeU_initU (T : Tx K mg) : Binds K (fdOf K at_ChangeU_initU) ["self", "rows"] [] := T.F_ChangeU_initU.bindsN (ps := ["self", "rows"]) fun _ _ _ _ _ _ us hl => match us, hl with | [_, _], _ => rfl
theorem Tx.F_ChangeU_callU (T : Tx K mg) : FunD K "__call__" "Change.__call__" (defArgs s_ChangeU_callU) (defBody s_ChangeU_callU) (defScope s_ChangeU_callU) [] [] (He.fAd K at_ChangeU_callU) (fdOf K at_ChangeU_callU) := Facts.fun_ T.b 7 d_ChangeU_callU
theorem Tx.b_ChangeU_callU (T : Tx K mg) : Binds K (fdOf K at_ChangeU_callU) ["self", "content"] [] := T.F_ChangeU_callU.bindsN (ps := ["self", "content"]) fun _ _ _ _ _ _ us hl => match us, hl with | [_, _], _ => rfl
theorem Tx.F_ChangeU_rshiftU (T : Tx K mg) : FunD K "__rshift__" "Change.__rshift__" (defArgs s_ChangeU_rshiftU) (defBody s_ChangeU_rshiftU) (defScope s_ChangeU_rshiftU) [] [] (He.fAd K at_ChangeU_rshiftU) (fdOf K at_ChangeU_rshiftU) := Facts.fun_ T.b 8 d_ChangeU_rshiftU
theorem Tx.b_ChangeU_rshiftU (T : Tx K mg) : Binds K (fdOf K at_ChangeU_rshiftU) ["self", "other"] [] := T.F_ChangeU_rshiftU.bindsN (ps := ["self", "other"]) fun _ _ _ _ _ _ us hl => match us, hl with | [_, _], _ => rfl
theorem Tx.F_ChangeU_mulU (T : Tx K mg) : FunD K "__mul__" "Change.__mul__" (defArgs s_ChangeU_mulU) (defBody s_ChangeU_mulU) (defScope s_ChangeU_mulU) [] [] (He.fAd K at_ChangeU_mulU) (fdOf K at_ChangeU_mulU) := Facts.fun_ T.b 9 d_ChangeU_mulU
theorem Tx.b_ChangeU_mulU (T : Tx K mg) : Binds K (fdOf K at_ChangeU_mulU) ["self", "times"] [] := T.F_ChangeU_mulU.bindsN (ps := ["self", "times"]) fun _ _ _ _ _ _ us hl => match us, hl with | [_, _], _ => rfl
theorem Tx.F_ChangeU_rmulU (T : Tx K mg) : FunD K "__rmul__" "Change.__rmul__" (defArgs s_ChangeU_rmulU) (defBody s_ChangeU_rmulU) (defScope s_ChangeU_rmulU) [] [] (He.fAd K at_ChangeU_rmulU) (fdOf K at_ChangeU_rmulU) := Facts.fun_ T.b 10 d_ChangeU_rmulU
theorem Tx.b_ChangeU_rmulU (T : Tx K mg) : Binds K (fdOf K at_ChangeU_rmulU) ["self", "times"] [] := T.F_ChangeU_rmulU.bindsN (ps := ["self", "times"]) fun _ _ _ _ _ _ us hl => match us, hl with | [_, _], _ => rfl
theorem Tx.F_law_state (T : Tx K mg) : FunD K "_law_state" "_law_state" (defArgs s_law_state) (defBody s_law_state) (defScope s_law_state) [] [] (He.fAd K at_law_state) (fdOf K at_law_state) := Facts.fun_ T.b 11 d_law_state
theorem Tx.b_law_state (T : Tx K mg) : Binds K (fdOf K at_law_state) ["script"] [] := T.F_law_state.bindsN (ps := ["script"]) fun _ _ _ _ _ _ us hl => match us, hl with | [_], _ => rfl
theorem Tx.m_law_state (T : Tx K mg) : mg "_law_state" = some (.ref (He.fAd K at_law_state)) := Facts.glo T.b 6 "_law_state"
theorem Tx.F_law_draw (T : Tx K mg) : FunD K "_law_draw" "_law_draw" (defArgs s_law_draw) (defBody s_law_draw) (defScope s_law_draw) [] [] (He.fAd K at_law_draw) (fdOf K at_law_draw) := Facts.fun_ T.b 12 d_law_draw
theorem Tx.b_law_draw (T : Tx K mg) : Binds K (fdOf K at_law_draw) ["state", "many"] [] := T.F_law_draw.bindsN (ps := ["state", "many"]) fun _ _ _ _ _ _ us hl => match us, hl with | [_, _], _ => rfl
theorem Tx.m_law_draw (T : Tx K mg) : mg "_law_draw" = some (.ref (He.fAd K at_law_draw)) := Facts.glo T.b 7 "_law_draw"
theorem Tx.F_law_pick (T : Tx K mg) : FunD K "_law_pick" "_law_pick" (defArgs s_law_pick) (defBody s_law_pick) (defScope s_law_pick) [] [] (He.fAd K at_law_pick) (fdOf K at_law_pick) := Facts.fun_ T.b 13 d_law_pick
theorem Tx.b_law_pick (T : Tx K mg) : Binds K (fdOf K at_law_pick) ["state", "row"] [] := T.F_law_pick.bindsN (ps := ["state", "row"]) fun _ _ _ _ _ _ us hl => match us, hl with | [_, _], _ => rfl
theorem Tx.m_law_pick (T : Tx K mg) : mg "_law_pick" = some (.ref (He.fAd K at_law_pick)) := Facts.glo T.b 8 "_law_pick"
theorem Tx.F_law_mixed (T : Tx K mg) : FunD K "_law_mixed" "_law_mixed" (defArgs s_law_mixed) (defBody s_law_mixed) (defScope s_law_mixed) [] [] (He.fAd K at_law_mixed) (fdOf K at_law_mixed) := Facts.fun_ T.b 14 d_law_mixed
theorem Tx.b_law_mixed (T : Tx K mg) : Binds K (fdOf K at_law_mixed) ["state", "row"] [] := T.F_law_mixed.bindsN (ps := ["state", "row"]) fun _ _ _ _ _ _ us hl => match us, hl with | [_, _], _ => rfl
theorem Tx.m_law_mixed (T : Tx K mg) : mg "_law_mixed" = some (.ref (He.fAd K at_law_mixed)) := Facts.glo T.b 9 "_law_mixed"
theorem Tx.F_law_number (T : Tx K mg) : FunD K "_law_number" "_law_number" (defArgs s_law_number) (defBody s_law_number) (defScope s_law_number) [] [] (He.fAd K at_law_number) (fdOf K at_law_number) := Facts.fun_ T.b 15 d_law_number
theorem Tx.b_law_number (T : Tx K mg) : Binds K (fdOf K at_law_number) ["state"] [] := T.F_law_number.bindsN (ps := ["state"]) fun _ _ _ _ _ _ us hl => match us, hl with | [_], _ => rfl
theorem Tx.m_law_number (T : Tx K mg) : mg "_law_number" = some (.ref (He.fAd K at_law_number)) := Facts.glo T.b 10 "_law_number"
theorem Tx.F_law_constant (T : Tx K mg) : FunD K "_law_constant" "_law_constant" (defArgs s_law_constant) (defBody s_law_constant) (defScope s_law_constant) [] [] (He.fAd K at_law_constant) (fdOf K at_law_constant) := Facts.fun_ T.b 16 d_law_constant
theorem Tx.b_law_constant (T : Tx K mg) : Binds K (fdOf K at_law_constant) ["state"] [] := T.F_law_constant.bindsN (ps := ["state"]) fun _ _ _ _ _ _ us hl => match us, hl with | [_], _ => rfl
theorem Tx.m_law_constant (T : Tx K mg) : mg "_law_constant" = some (.ref (He.fAd K at_law_constant)) := Facts.glo T.b 11 "_law_constant"
theorem Tx.F_law_names (T : Tx K mg) : FunD K "_law_names" "_law_names" (defArgs s_law_names) (defBody s_law_names) (defScope s_law_names) [] [] (He.fAd K at_law_names) (fdOf K at_law_names) := Facts.fun_ T.b 17 d_law_names
theorem Tx.b_law_names (T : Tx K mg) : Binds K (fdOf K at_law_names) ["state", "many"] [] := T.F_law_names.bindsN (ps := ["state", "many"]) fun _ _ _ _ _ _ us hl => match us, hl with | [_, _], _ => rfl
theorem Tx.m_law_names (T : Tx K mg) : mg "_law_names" = some (.ref (He.fAd K at_law_names)) := Facts.glo T.b 12 "_law_names"
theorem Tx.F_law_is_int (T : Tx K mg) : FunD K "_law_is_int" "_law_is_int" (defArgs s_law_is_int) (defBody s_law_is_int) (defScope s_law_is_int) [] [] (He.fAd K at_law_is_int) (fdOf K at_law_is_int) := Facts.fun_ T.b 18 d_law_is_int
theorem Tx.b_law_is_int (T : Tx K mg) : Binds K (fdOf K at_law_is_int) ["thing"] [] := T.F_law_is_int.bindsN (ps := ["thing"]) fun _ _ _ _ _ _ us hl => match us, hl with | [_], _ => rfl
theorem Tx.m_law_is_int (T : Tx K mg) : mg "_law_is_int" = some (.ref (He.fAd K at_law_is_int)) := Facts.glo T.b 13 "_law_is_int"
theorem Tx.F_law_same (T : Tx K mg) : FunD K "_law_same" "_law_same" (defArgs s_law_same) (defBody s_law_same) (defScope s_law_same) [] [] (He.fAd K at_law_same) (fdOf K at_law_same) := Facts.fun_ T.b 19 d_law_same
theorem Tx.b_law_same (T : Tx K mg) : Binds K (fdOf K at_law_same) ["actual", "due"] [] := T.F_law_same.bindsN (ps := ["actual", "due"]) fun _ _ _ _ _ _ us hl => match us, hl with | [_, _], _ => rfl
theorem Tx.m_law_same (T : Tx K mg) : mg "_law_same" = some (.ref (He.fAd K at_law_same)) := Facts.glo T.b 14 "_law_same"
theorem Tx.F_law_changed (T : Tx K mg) : FunD K "_law_changed" "_law_changed" (defArgs s_law_changed) (defBody s_law_changed) (defScope s_law_changed) [] [] (He.fAd K at_law_changed) (fdOf K at_law_changed) := Facts.fun_ T.b 20 d_law_changed
theorem Tx.b_law_changed (T : Tx K mg) : Binds K (fdOf K at_law_changed) ["rows", "content"] [] := T.F_law_changed.bindsN (ps := ["rows", "content"]) fun _ _ _ _ _ _ us hl => match us, hl with | [_, _], _ => rfl
theorem Tx.m_law_changed (T : Tx K mg) : mg "_law_changed" = some (.ref (He.fAd K at_law_changed)) := Facts.glo T.b 15 "_law_changed"
theorem Tx.F_law_change (T : Tx K mg) : FunD K "_law_change" "_law_change" (defArgs s_law_change) (defBody s_law_change) (defScope s_law_change) [] [] (He.fAd K at_law_change) (fdOf K at_law_change) := Facts.fun_ T.b 21 d_law_change
theorem Tx.b_law_change (T : Tx K mg) : Binds K (fdOf K at_law_change) ["rows"] [] := T.F_law_change.bindsN (ps := ["rows"]) fun _ _ _ _ _ _ us hl => match us, hl with | [_], _ => rfl
theorem Tx.m_law_change (T : Tx K mg) : mg "_law_change" = some (.ref (He.fAd K at_law_change)) := Facts.glo T.b 16 "_law_change"
theorem Tx.F_law_some_rows (T : Tx K mg) : FunD K "_law_some_rows" "_law_some_rows" (defArgs s_law_some_rows) (defBody s_law_some_rows) (defScope s_law_some_rows) [] [] (He.fAd K at_law_some_rows) (fdOf K at_law_some_rows) := Facts.fun_ T.b 22 d_law_some_rows
theorem Tx.b_law_some_rows (T : Tx K mg) : Binds K (fdOf K at_law_some_rows) ["state", "fields"] [] := T.F_law_some_rows.bindsN (ps := ["state", "fields"]) fun _ _ _ _ _ _ us hl => match us, hl with | [_, _], _ => rfl
theorem Tx.m_law_some_rows (T : Tx K mg) : mg "_law_some_rows" = some (.ref (He.fAd K at_law_some_rows)) := Facts.glo T.b 17 "_law_some_rows"
theorem Tx.F_law_do (T : Tx K mg) : FunD K "_law_do" "_law_do" (defArgs s_law_do) (defBody s_law_do) (defScope s_law_do) [] [] (He.fAd K at_law_do) (fdOf K at_law_do) := Facts.fun_ T.b 23 d_law_do
theorem Tx.b_law_do (T : Tx K mg) : Binds K (fdOf K at_law_do) ["made", "times", "ahead"] [] := T.F_law_do.bindsN (ps := ["made", "times", "ahead"]) fun _ _ _ _ _ _ us hl => match us, hl with | [_, _, _], _ => rfl
theorem Tx.m_law_do (T : Tx K mg) : mg "_law_do" = some (.ref (He.fAd K at_law_do)) := Facts.glo T.b 18 "_law_do"
theorem Tx.F_law_repeated (T : Tx K mg) : FunD K "_law_repeated" "_law_repeated" (defArgs s_law_repeated) (defBody s_law_repeated) (defScope s_law_repeated) [] [] (He.fAd K at_law_repeated) (fdOf K at_law_repeated) := Facts.fun_ T.b 24 d_law_repeated
theorem Tx.b_law_repeated (T : Tx K mg) : Binds K (fdOf K at_law_repeated) ["rows", "times"] [] := T.F_law_repeated.bindsN (ps := ["rows", "times"]) fun _ _ _ _ _ _ us hl => match us, hl with | [_, _], _ => rfl
theorem Tx.m_law_repeated (T : Tx K mg) : mg "_law_repeated" = some (.ref (He.fAd K at_law_repeated)) := Facts.glo T.b 19 "_law_repeated"
theorem Tx.F_law_after (T : Tx K mg) : FunD K "_law_after" "_law_after" (defArgs s_law_after) (defBody s_law_after) (defScope s_law_after) [] [] (He.fAd K at_law_after) (fdOf K at_law_after) := Facts.fun_ T.b 25 d_law_after
theorem Tx.b_law_after (T : Tx K mg) : Binds K (fdOf K at_law_after) ["rows", "times", "content"] [] := T.F_law_after.bindsN (ps := ["rows", "times", "content"]) fun _ _ _ _ _ _ us hl => match us, hl with | [_, _, _], _ => rfl
theorem Tx.m_law_after (T : Tx K mg) : mg "_law_after" = some (.ref (He.fAd K at_law_after)) := Facts.glo T.b 20 "_law_after"
theorem Tx.F_law_repeats (T : Tx K mg) : FunD K "_law_repeats" "_law_repeats" (defArgs s_law_repeats) (defBody s_law_repeats) (defScope s_law_repeats) [] [] (He.fAd K at_law_repeats) (fdOf K at_law_repeats) := Facts.fun_ T.b 26 d_law_repeats
theorem Tx.b_law_repeats (T : Tx K mg) : Binds K (fdOf K at_law_repeats) ["made", "rows", "times", "content"] [] := T.F_law_repeats.bindsN (ps := ["made", "rows", "times", "content"]) fun _ _ _ _ _ _ us hl => match us, hl with | [_, _, _, _], _ => rfl
theorem Tx.m_law_repeats (T : Tx K mg) : mg "_law_repeats" = some (.ref (He.fAd K at_law_repeats)) := Facts.glo T.b 21 "_law_repeats"
theorem Tx.F_law (T : Tx K mg) : FunD K "law" "law" (defArgs s_law) (defBody s_law) (defScope s_law) [] [] (He.fAd K at_law) (fdOf K at_law) := Facts.fun_ T.b 27 d_law
theorem Tx.b_law (T : Tx K mg) : Binds K (fdOf K at_law) ["script"] [] := T.F_law.bindsN (ps := ["script"]) fun _ _ _ _ _ _ us hl => match us, hl with | [_], _ => rfl
theorem Tx.m_law (T : Tx K mg) : mg "law" = some (.ref (He.fAd K at_law)) := Facts.glo T.b 22 "law"
theorem Tx.z_len (T : Tx K mg) : mg "len" = none := Facts.free T.b 23 "len"
theorem Tx.z_isinstance (T : Tx K mg) : mg "isinstance" = none := Facts.free T.b 24 "isinstance"
theorem Tx.z_range (T : Tx K mg) : mg "range" = none := Facts.free T.b 25 "range"
theorem Tx.z_list (T : Tx K mg) : mg "list" = none := Facts.free T.b 26 "list"
theorem Tx.z_int (T : Tx K mg) : mg "int" = none := Facts.free T.b 27 "int"
theorem Tx.z_str (T : Tx K mg) : mg "str" = none := Facts.free T.b 28 "str"
theorem Tx.z_bool (T : Tx K mg) : mg "bool" = none := Facts.free T.b 29 "bool"
theorem Tx.z_dict (T : Tx K mg) : mg "dict" = none := Facts.free T.b 30 "dict"
theorem Tx.z_tuple (T : Tx K mg) : mg "tuple" = none := Facts.free T.b 31 "tuple"
theorem Tx.z_super (T : Tx K mg) : mg "super" = none := Facts.free T.b 32 "super"
theorem Tx.z_ValueError (T : Tx K mg) : mg "ValueError" = none := Facts.free T.b 33 "ValueError"
theorem Tx.g_LETTERS (T : Tx K mg) : ∃ u, mg "LETTERS" = some u ∧ RelV (.str "abcdefghijklmnopqrstuvwxyz") u := Facts.str T.b 34 "LETTERS" "abcdefghijklmnopqrstuvwxyz"
theorem Tx.g_DIGITS (T : Tx K mg) : ∃ u, mg "DIGITS" = some u ∧ RelV (.str "0123456789") u := Facts.str T.b 35 "DIGITS" "0123456789"
theorem Tx.g_RESERVED (T : Tx K mg) : ∃ u, mg "RESERVED" = some u ∧ RelV (.ref (He.ga K "RESERVED")) u := Facts.obj T.b 36 "RESERVED"
theorem Tx.t_RESERVED (T : Tx K mg) (H : Hp) : SqT K H (He.ga K "RESERVED") (c_RESERVED.map V.str) := He.tupB_ok (x := "RESERVED") (vs := c_RESERVED.map He.Dv.str) (Facts.exf T.b 0 x_RESERVED) H
theorem Tx.g_SIGNS (T : Tx K mg) : ∃ u, mg "SIGNS" = some u ∧ RelV (.ref (He.ga K "SIGNS")) u := Facts.obj T.b 37 "SIGNS"
theorem Tx.t_SIGNS (T : Tx K mg) (H : Hp) : SqT K H (He.ga K "SIGNS") (c_SIGNS.map V.str) := He.tupB_ok (x := "SIGNS") (vs := c_SIGNS.map He.Dv.str) (Facts.exf T.b 1 x_SIGNS) H
theorem Tx.g_NAME_LENGTH (T : Tx K mg) : ∃ u, mg "NAME_LENGTH" = some u ∧ RelV (.int 12) u := Facts.int T.b 38 "NAME_LENGTH" 12
theorem Tx.g_MOST_TIMES (T : Tx K mg) : ∃ u, mg "MOST_TIMES" = some u ∧ RelV (.int 1000) u := Facts.int T.b 39 "MOST_TIMES" 1000
theorem Tx.m_BadNumber (T : Tx K mg) : mg "BadNumber" = some (.ref (He.ga K "BadNumber")) := Facts.glo T.b 40 "BadNumber"
theorem Tx.m_TooLarge (T : Tx K mg) : mg "TooLarge" = some (.ref (He.ga K "TooLarge")) := Facts.glo T.b 41 "TooLarge"
theorem Tx.m_ElseputError (T : Tx K mg) : mg "ElseputError" = some (.ref (He.ga K "ElseputError")) := Facts.glo T.b 42 "ElseputError"
theorem Tx.o_BadNumber (T : Tx K mg) : Own K "BadNumber" ["value"] := ownB_ok (Facts.exf T.b 2 xo_BadNumber)
theorem Tx.S_BadNumber (T : Tx K mg) : ∃ cc, SupF PP K mg (He.ma K (He.ga K "BadNumber") "__init__") (fdOf K ("BadNumber", some "__init__")) (i_BadNumber.nf K) (He.ga K "BadNumber") cc := FactsN.supF T.n 0 i_BadNumber (Facts.exf T.b 3 xi_BadNumber) T.o_BadNumber T.z_super
theorem Tx.I_BadNumber {w : World} {base : Heap} (T : Tx K mg) : FnOk PP w K mg base CX0 1 (He.ma K (He.ga K "BadNumber") "__init__") (fdOf K ("BadNumber", some "__init__")) ["self", "value"] (spI K (He.ga K "BadNumber") ["value"]) := by
  obtain ⟨cc, S⟩ := T.S_BadNumber
  exact fn_init1 S nsc_BadNumber rfl rfl rfl (by decide) (by decide)
theorem Tx.B_BadNumber (T : Tx K mg) : Binds K (fdOf K ("BadNumber", some "__init__")) ["self", "value"] [] := by
  obtain ⟨cc, S⟩ := T.S_BadNumber
  obtain ⟨oc, od, osl, doc, pm, ctv, e, _⟩ := S.fn
  rw [e]
  exact .all fun us hl => match us, hl with | [_, _], _ => rfl
theorem Tx.o_TooLarge (T : Tx K mg) : Own K "TooLarge" ["most"] := ownB_ok (Facts.exf T.b 4 xo_TooLarge)
theorem Tx.S_TooLarge (T : Tx K mg) : ∃ cc, SupF PP K mg (He.ma K (He.ga K "TooLarge") "__init__") (fdOf K ("TooLarge", some "__init__")) (i_TooLarge.nf K) (He.ga K "TooLarge") cc := FactsN.supF T.n 1 i_TooLarge (Facts.exf T.b 5 xi_TooLarge) T.o_TooLarge T.z_super
theorem Tx.I_TooLarge {w : World} {base : Heap} (T : Tx K mg) : FnOk PP w K mg base CX0 1 (He.ma K (He.ga K "TooLarge") "__init__") (fdOf K ("TooLarge", some "__init__")) ["self", "most"] (spI K (He.ga K "TooLarge") ["most"]) := by
  obtain ⟨cc, S⟩ := T.S_TooLarge
  exact fn_init1 S nsc_TooLarge rfl rfl rfl (by decide) (by decide)
theorem Tx.B_TooLarge (T : Tx K mg) : Binds K (fdOf K ("TooLarge", some "__init__")) ["self", "most"] [] := by
  obtain ⟨cc, S⟩ := T.S_TooLarge
  obtain ⟨oc, od, osl, doc, pm, ctv, e, _⟩ := S.fn
  rw [e]
  exact .all fun us hl => match us, hl with | [_, _], _ => rfl
theorem Tx.m_Change (T : Tx K mg) : mg "Change" = some (.ref (He.ga K "Change")) := Facts.glo T.b 43 "Change"
theorem Tx.cl_Change (T : Tx K mg) : Cls K (He.ga K "Change") := He.cls_ok (Facts.fct T.b 44 (.cls "Change"))
theorem Tx.n_Change_assignments (T : Tx K mg) : NoAttr K (He.ga K "Change") "assignments" := He.noat_ok (Facts.fct T.b 45 (.noat "Change" "assignments"))
theorem Tx.mk_Change (T : Tx K mg) : Mk K (He.ga K "Change") (He.ma K (He.ga K "Change") "__init__") := He.mkr_ok (Facts.fct T.b 46 (.mkr "Change"))
theorem Tx.me_Change_init (T : Tx K mg) : Meth K (He.ga K "Change") "__init__" (He.fAd K at_ChangeU_initU) := He.meth_ok (Facts.fct T.b 47 (.meth "Change" "__init__"))
theorem Tx.me_Change_call (T : Tx K mg) : Meth K (He.ga K "Change") "__call__" (He.fAd K at_ChangeU_callU) := He.meth_ok (Facts.fct T.b 48 (.meth "Change" "__call__"))
theorem Tx.me_Change_rshift (T : Tx K mg) : Meth K (He.ga K "Change") "__rshift__" (He.fAd K at_ChangeU_rshiftU) := He.meth_ok (Facts.fct T.b 49 (.meth "Change" "__rshift__"))
theorem Tx.me_Change_mul (T : Tx K mg) : Meth K (He.ga K "Change") "__mul__" (He.fAd K at_ChangeU_mulU) := He.meth_ok (Facts.fct T.b 50 (.meth "Change" "__mul__"))
theorem Tx.me_Change_rmul (T : Tx K mg) : Meth K (He.ga K "Change") "__rmul__" (He.fAd K at_ChangeU_rmulU) := He.meth_ok (Facts.fct T.b 51 (.meth "Change" "__rmul__"))
theorem Tx.cr_Change (T : Tx K mg) : ClX.CRead K (He.ga K "Change") (.type "type") := cread_ok (Facts.exf T.b 6 xcr_Change)
theorem Tx.F_Change_none (T : Tx K mg) : FunD K "none" "Change.none" (defArgs s_Change_none) (defBody s_Change_none) (defScope s_Change_none) [] [] (at_Change_none K) (fdA K (at_Change_none K)) := FactsS.stat T 0 w_Change_none
theorem Tx.b_Change_none (T : Tx K mg) : Binds K (fdA K (at_Change_none K)) [] [] := T.F_Change_none.bindsN (ps := []) fun _ _ _ _ _ _ us hl => match us, hl with | [], _ => rfl
theorem Tx.sm_Change_none (T : Tx K mg) : SMet K (He.ga K "Change") (.type "type") "none" (He.ma K (He.ga K "Change") "none") (at_Change_none K) := smet_ok (Facts.exf T.b 7 xw_Change_none) T.F_Change_none.kp
theorem Tx.F_Change_adding (T : Tx K mg) : FunD K "adding" "Change.adding" (defArgs s_Change_adding) (defBody s_Change_adding) (defScope s_Change_adding) [] [] (at_Change_adding K) (fdA K (at_Change_adding K)) := FactsS.stat T 1 w_Change_adding
theorem Tx.b_Change_adding (T : Tx K mg) : Binds K (fdA K (at_Change_adding K)) ["field", "number"] [] := T.F_Change_adding.bindsN (ps := ["field", "number"]) fun _ _ _ _ _ _ us hl => match us, hl with | [_, _], _ => rfl
theorem Tx.sm_Change_adding (T : Tx K mg) : SMet K (He.ga K "Change") (.type "type") "adding" (He.ma K (He.ga K "Change") "adding") (at_Change_adding K) := smet_ok (Facts.exf T.b 8 xw_Change_adding) T.F_Change_adding.kp
theorem Tx.F_Change_setting (T : Tx K mg) : FunD K "setting" "Change.setting" (defArgs s_Change_setting) (defBody s_Change_setting) (defScope s_Change_setting) [] [] (at_Change_setting K) (fdA K (at_Change_setting K)) := FactsS.stat T 2 w_Change_setting
theorem Tx.b_Change_setting (T : Tx K mg) : Binds K (fdA K (at_Change_setting K)) ["field", "number"] [] := T.F_Change_setting.bindsN (ps := ["field", "number"]) fun _ _ _ _ _ _ us hl => match us, hl with | [_, _], _ => rfl
theorem Tx.sm_Change_setting (T : Tx K mg) : SMet K (He.ga K "Change") (.type "type") "setting" (He.ma K (He.ga K "Change") "setting") (at_Change_setting K) := smet_ok (Facts.exf T.b 9 xw_Change_setting) T.F_Change_setting.kp
theorem Tx.F_Change_assigned (T : Tx K mg) : FunD K "assigned" "Change.assigned" (defArgs s_Change_assigned) (defBody s_Change_assigned) (defScope s_Change_assigned) [] [] (at_Change_assigned K) (fdA K (at_Change_assigned K)) := FactsS.stat T 3 w_Change_assigned
theorem Tx.b_Change_assigned (T : Tx K mg) : Binds K (fdA K (at_Change_assigned K)) ["self"] [] := T.F_Change_assigned.bindsN (ps := ["self"]) fun _ _ _ _ _ _ us hl => match us, hl with | [_], _ => rfl
theorem Tx.pr_Change_assigned (T : Tx K mg) : PropOf K (He.ga K "Change") "assigned" (He.ma K (He.ga K "Change") "assigned") (at_Change_assigned K) := prop_ok (Facts.exf T.b 10 xw_Change_assigned)
theorem Tx.g_BOUND (T : Tx K mg) : ∃ u, mg "BOUND" = some u ∧ RelV (.int 1000000000000000000000000000000) u := Facts.int T.b 52 "BOUND" 1000000000000000000000000000000
theorem Tx.x_first (T : Tx K mg) : (PySem.W.selfFirst K (He.ga K "Change")) = true := Facts.exf T.b 11 xm_first
theorem Tx.x_subint (T : Tx K mg) : (decide (PySem.W.subIn K (.ref (He.ga K "Change")) (.type "int") = some false)) = true := Facts.exf T.b 12 xm_subint
theorem Tx.x_mul (T : Tx K mg) : (binTB K (He.ga K "Change") "mul" "int") = true := Facts.exf T.b 13 xm_mul
theorem Tx.x_isfn (T : Tx K mg) : (PySem.W.isFn K (.ref (He.fAd K ("Change", some "__call__")))) = true := Facts.exf T.b 14 xm_isfn
theorem Tx.x_fnin (T : Tx K mg) : (PySem.W.fnIn K (He.fAd K ("Change", some "__call__"))) = true := Facts.exf T.b 15 xm_fnin
theorem Tx.x_callat (T : Tx K mg) : (decide (PySem.W.findIn K (.ref (He.ga K "Change")) "__call__" = some (some (.ref (He.fAd K ("Change", some "__call__")))))) = true := Facts.exf T.b 16 xm_callat
theorem Tx.c_BadNumber_ElseputError (T : Tx K mg) : PySem.W.exmOne K (.ref (He.ga K "BadNumber")) (.ref (He.ga K "ElseputError")) = some true := He.exm_ok (Facts.fct T.b 53 (.exm "BadNumber" "ElseputError" true))
theorem Tx.k_BadNumber_BadNumber (T : Tx K mg) : PySem.W.kitOne K (.ref (He.ga K "BadNumber")) (.ref (He.ga K "BadNumber")) = some true := of_decide_eq_true (Facts.exf T.b 17 xk_BadNumber_BadNumber)
theorem Tx.k_BadNumber_ValueError (T : Tx K mg) : PySem.W.kitOne K (.ref (He.ga K "BadNumber")) (.type "ValueError") = some true := of_decide_eq_true (Facts.exf T.b 18 xk_BadNumber_ValueError)
theorem Tx.k_BadNumber_TooLarge (T : Tx K mg) : PySem.W.kitOne K (.ref (He.ga K "BadNumber")) (.ref (He.ga K "TooLarge")) = some false := of_decide_eq_true (Facts.exf T.b 19 xk_BadNumber_TooLarge)
end
end K13
namespace K13
open PySem PySem.Spec PyProof.Rows L2 TK
abbrev letters : Str := "abcdefghijklmnopqrstuvwxyz"
/-- what is_name tells -/
def isName (x : Str) : Bool :=
  if decide (V.str x = V.str "") = true then false else if decide ((12 : Int) < (x.length : Int)) = true then false else if inV (.str x) (c_RESERVED.map V.str) = true then false else x.cps.toList.all fun c => decide (c ∈ letters.cps.toList)
def sp_is_name : Sp := fun vs H Q _ => ∃ x : Str, vs = [.str x] ∧ x.length ≤ sizeLine ∧ Q (.bl (isName x)) H
section
variable {P : Program} {w : World} {K : PySem.W.Frag} {mg : Str → Option Value} {base : Heap}
theorem ok_is_name (T : Tx K mg) : FnOk P w K mg base CX0 1 (He.fAd K at_is_name) (fdOf K at_is_name) ["text"] sp_is_name := by
  refine T.F_is_name.ok sc_is_name (fun vs H Q E h => ?_) (fun cdv A outer s H vs Q E hr h => ?_)
  · obtain ⟨_, rfl, _⟩ := h
    rfl
  obtain ⟨x, rfl, hl, k⟩ := h
  refine ⟨_, PSs.nox (pss_cons (ps_if (PW.pt (pw_or (pt_cmpR op_eqA (pv 0) pe_str (nomark _)) (pw_or (pt_cmpR op_gt (pe_callB call_lenA (by rfl) T.z_len PySem.boot_len (pa_cons (pv 0) pa_nil)) (pe_globE (by rfl) T.g_NAME_LENGTH) (nomark _)) (pw_or1 (pt_cmpR op_inA (pv 0) (pe_globE (by rfl) T.g_RESERVED) (by rfl))))))
     (pss_one (ps_ret pe_bl))
     pss_nil)
    (pss_cons (ps_for PassesOwn.never rfl (pi_str (pv 0)) (pg_name (i := 1) sc_is_name.nd rfl (by first | exact .inl rfl | exact .inr rfl))
     (pss_one (ps_if (pt_cmpR op_ninA (pv 1) (pe_globE (by rfl) T.g_LETTERS) (by rfl))
      (pss_one (ps_ret pe_bl))
      pss_nil)))
    (pss_one (ps_ret pe_bl)))), ?_⟩
  have tR := T.t_RESERVED H
  dsimp only [cxOf, Cx.nox, Cx.wish, L2.start, List.map, List.length, List.replicate, List.append]
  walk_at "rd"
  refine ite2 (fun e1 => ?_) (fun e1 => ?_)
  · walk_at "rd"
    have z : isName x = false := by rw [isName, if_pos e1]
    rw [z] at k
    exact k
  walk_at "rd"
  refine ite2 (fun e2 => ?_) (fun e2 => ?_)
  · walk_at "rd"
    have z : isName x = false := by rw [isName, if_neg e1, if_pos e2]
    rw [z] at k
    exact k
  walk_at "rd"
  refine ite2 (fun e3 => ?_) (fun e3 => ?_)
  · walk_at "rd"
    have z : isName x = false := by rw [isName, if_neg e1, if_neg e2, if_pos e3]
    rw [z] at k
    exact k
  walk_at "rd"
  have z : isName x = x.cps.toList.all fun c => decide (c ∈ letters.cps.toList) := by rw [isName, if_neg e1, if_neg e2, if_neg e3]
  refine for_str (fun i σ H' => Here (∃ c, σ = [some (.str x), c] ∧ H' = H ∧ (x.cps.toList.take i).all (fun c => decide (c ∈ letters.cps.toList)) = true)) (.mk ⟨none, rfl, rfl, rfl⟩) (fun i c σ H' hc p => ?_) (fun σ H' p => ?_)
  · obtain ⟨_, rfl, rfl, pa⟩ := p.out
    walk_at "rd"
    refine ite2 (fun e => ?_) (fun e => ?_)
    · walk_at "rd"
      rw [z, not_all (cps_at hc) (by simpa using e)] at k
      exact k
    · exact .mk ⟨_, rfl, rfl, all_take (cps_at hc) pa (by simpa using e)⟩
  · obtain ⟨_, rfl, rfl, pa⟩ := p.out
    walk_at "rd"
    rw [z] at k
    have : x.cps.toList.take x.cps.size = x.cps.toList := by rw [← Array.length_toList, List.take_length]
    rw [this] at pa
    rw [pa] at k
    exact k
def sp_check_ok : Sp := fun vs H Q _ => ∃ x : Str, vs = [.str x] ∧ x.length ≤ sizeLine ∧ isName x = true ∧ Q (.str x) H
theorem ok_check_name (T : Tx K mg) : FnOk P w K mg base CX0 2 (He.fAd K at_check_name) (fdOf K at_check_name) ["text"] sp_check_ok := by
  have G_is_name := ok_is_name (P := P) (w := w) (base := base) T
  refine T.F_check_name.ok sc_check_name (fun vs H Q E h => ?_) (fun cdv A outer s H vs Q E hr h => ?_)
  · obtain ⟨_, rfl, _⟩ := h
    rfl
  obtain ⟨x, rfl, hl, hx, k⟩ := h
  refine ⟨_, PSs.nox (pss_cons (ps_if (pt_not (pt_val (pe_call G_is_name (hr.mono (by first | decide | omega)) (by rfl) T.m_is_name T.F_is_name.kp T.b_is_name .nil pass0 (pa_cons (pv 0) pa_nil))))
     (pss_one ps_never)
     pss_nil)
    (pss_one (ps_ret (pv 0)))), ?_⟩
  dsimp only [cxOf, Cx.nox, Cx.wish, L2.start, List.map, List.length, List.replicate, List.append]
  walk_at "rd"
  rw [hx]
  refine ite2 (fun e => absurd e (by simp)) (fun _ => ?_)
  walk_at "rd"
  exact k
abbrev B30 : Int := 1000000000000000000000000000000
def sp_check_num : Sp := fun vs H Q _ => ∃ n : Int, vs = [.int n] ∧ -B30 ≤ n ∧ n ≤ B30 ∧ Q (.int n) H
theorem ok_check_number (T : Tx K mg) : FnOk P w K mg base CX0 1 (He.fAd K at_check_number) (fdOf K at_check_number) ["value"] sp_check_num := by
  refine T.F_check_number.ok sc_check_number (fun vs H Q E h => ?_) (fun cdv A outer s H vs Q E hr h => ?_)
  · obtain ⟨_, rfl, _⟩ := h
    rfl
  obtain ⟨n, rfl, n1, n2, k⟩ := h
  refine ⟨_, PSs.nox (pss_cons (ps_if (PW.pt (pw_or (pt_cmpR op_ltA (pv 0) (pe_un un_neg (pe_globE (by rfl) T.g_BOUND)) (nomark _)) (pw_or1 (pt_cmpR op_gt (pv 0) (pe_globE (by rfl) T.g_BOUND) (nomark _)))))
     (pss_one ps_never)
     pss_nil)
    (pss_one (ps_ret (pv 0)))), ?_⟩
  dsimp only [cxOf, Cx.nox, Cx.wish, L2.start, List.map, List.length, List.replicate, List.append]
  have n1 : -1000000000000000000000000000000 ≤ n := n1
  have n2 : n ≤ 1000000000000000000000000000000 := n2
  walk_at "rd"
  refine ite2 (fun e => absurd (of_decide_eq_true e) (by omega)) (fun _ => ?_)
  walk_at "rd"
  refine ite2 (fun e => absurd (of_decide_eq_true e) (by omega)) (fun _ => ?_)
  walk_at "rd"
  exact k
end
end K13
namespace K13
open PySem PySem.Spec PyProof.Rows L2 TK
section
variable {P : Program} {w : World} {K : PySem.W.Frag} {mg : Str → Option Value} {base : Heap}
theorem ok_law_state (T : Tx K mg) : FnOk P w K mg base CX0 1 (He.fAd K at_law_state) (fdOf K at_law_state) ["script"] (sp_state K) := by
  refine state_seal (T.F_law_state.ok sc_law_state (fun vs H Q E h => ?_) (fun cdv A outer s H vs Q E hr h => ?_))
  · obtain ⟨a, ns, rfl, _⟩ := h
    rfl
  obtain ⟨a, ns, rfl, hS, hl, k⟩ := h
  refine ⟨_, PSs.nox (pss_one (ps_ret (pe_lst (pa_cons (pe_callTy call_list_of (by rfl) T.z_list (by decide +kernel) (pa_cons (pv 0) pa_nil)) (pa_cons pe_int (pa_cons pe_int (pa_cons pe_int (pa_cons pe_int pa_nil)))))))), ?_⟩
  refine ⟨_, rfl, a, _, rfl, .inl hS, fun q nq => ?_⟩
  refine ⟨Nat.le_of_ble_eq_true rfl, fun st nst => ?_⟩
  have nqs : q ≠ st := ne_of_none upd_same nst
  refine k q st _ ((same_new nq).trans (same_new nst)) ((same_new nq).free nst) (by walk_at "hp") upd_same
theorem ok_law_draw (T : Tx K mg) : FnOk P w K mg base CX0 1 (He.fAd K at_law_draw) (fdOf K at_law_draw) ["state", "many"] sp_draw := by
  refine draw_view (T.F_law_draw.ok sc_law_draw (fun vs H Q E h => ?_) (fun cdv A outer s H vs Q E hr h => ?_))
  · obtain ⟨_, _, _, _, _, rfl, _⟩ := h
    rfl
  obtain ⟨st, q, ns, xs, many, rfl, hl, hq, hst, ⟨i, v, m, c, rfl, h0, h1⟩, m0, m1, k⟩ := h
  refine ⟨_, PSs.nox (pss_cutT (ps_if (pt_cmpR op_eqA (pe_ix ix_A (pv 0) pe_int (fun _ _ => rfl)) pe_int (nomark _))
     (pss_cons (ps_if (pt_cmpR op_ge (pe_ix ix_A (pv 0) pe_int (fun _ _ => rfl)) (pe_callB call_lenA (by rfl) T.z_len PySem.boot_len (pa_cons (pe_ix ix_A (pv 0) pe_int (fun _ _ => rfl)) pa_nil)) (nomark _))
      (pss_one (ps_ret pe_int))
      pss_nil)
     (pss_cons (ps_asg (pe_callTy call_int1 (by rfl) T.z_int (by decide +kernel) (pa_cons (pe_ix ix_A (pe_ix ix_A (pv 0) pe_int (fun _ _ => rfl)) (pe_ix ix_A (pv 0) pe_int (fun _ _ => rfl)) (fun _ _ => rfl)) pa_nil)) (pg_sub (pv 0) pe_int set_A))
     (pss_cons (ps_asg (pe_op op_addA (pe_ix ix_A (pv 0) pe_int (fun _ _ => rfl)) pe_int) (pg_sub (pv 0) pe_int set_A))
     (pss_cons (ps_asg pe_int (pg_sub (pv 0) pe_int set_A))
     (pss_cons (ps_asg pe_int (pg_sub (pv 0) pe_int set_A))
     (pss_one (ps_if (pt_cmpR op_ltA (pe_ix ix_A (pv 0) pe_int (fun _ _ => rfl)) (pe_op op_pow pe_int pe_int) (nomark _))
      (pss_one (ps_asg pe_int (pg_sub (pv 0) pe_int set_A)))
      pss_nil)))))))
     pss_nil)
    (pss_cons (ps_asg (pe_op op_addA (pe_ix ix_A (pv 0) pe_int (fun _ _ => rfl)) pe_int) (pg_sub (pv 0) pe_int set_A))
    (pss_cons (ps_if (pt_cmpR op_eqA (pe_ix ix_A (pv 0) pe_int (fun _ _ => rfl)) pe_int (nomark _))
     (pss_cons (ps_set (i := 2) sc_law_draw.nd rfl (by first | exact .inl rfl | exact .inr rfl) (pe_op op_mod (pe_callTy call_int1 (by rfl) T.z_int (by decide +kernel) (pa_cons (pe_ix ix_A (pv 0) pe_int (fun _ _ => rfl)) pa_nil)) (pv 1)))
     (pss_cons (ps_asg (pe_op op_fdivW (pe_callTy call_int1 (by rfl) T.z_int (by decide +kernel) (pa_cons (pe_ix ix_A (pv 0) pe_int (fun _ _ => rfl)) pa_nil)) (pv 1)) (pg_sub (pv 0) pe_int set_A))
     (pss_cons (ps_if (PW.pt (pw_or (pt_cmpR op_eqA (pe_ix ix_A (pv 0) pe_int (fun _ _ => rfl)) pe_int (nomark _)) (pw_or1 (pt_cmpR op_ge (pe_ix ix_A (pv 0) pe_int (fun _ _ => rfl)) pe_int (nomark _)))))
      (pss_one (ps_asg pe_int (pg_sub (pv 0) pe_int set_A)))
      pss_nil)
     (pss_one (ps_ret (pv 2))))))
     pss_nil)
    (pss_cons (ps_set (i := 3) sc_law_draw.nd rfl (by first | exact .inl rfl | exact .inr rfl) (pe_op op_mod (pe_callTy call_int1 (by rfl) T.z_int (by decide +kernel) (pa_cons (pe_op op_addA (pe_op op_mulA (pe_ix ix_A (pv 0) pe_int (fun _ _ => rfl)) pe_int) (pe_op op_mulA (pe_ix ix_A (pv 0) pe_int (fun _ _ => rfl)) pe_int)) pa_nil)) pe_int))
    (pss_cons (ps_set (i := 4) sc_law_draw.nd rfl (by first | exact .inl rfl | exact .inr rfl) (pe_op op_mod (pe_callTy call_int1 (by rfl) T.z_int (by decide +kernel) (pa_cons (pe_op op_addA (pe_op op_addA (pe_op op_mulA (pv 3) (pv 3)) (pe_op op_mulA (pe_ix ix_A (pv 0) pe_int (fun _ _ => rfl)) pe_int)) pe_int) pa_nil)) pe_int))
    (pss_cutT (ps_if (pt_cmpR op_ge (pe_ix ix_A (pv 0) pe_int (fun _ _ => rfl)) pe_int (nomark _))
     (pss_one (ps_asg pe_int (pg_sub (pv 0) pe_int set_A)))
     pss_nil)
    (pss_cons (ps_set (i := 5) sc_law_draw.nd rfl (by first | exact .inl rfl | exact .inr rfl) (pe_op op_mod (pe_callTy call_int1 (by rfl) T.z_int (by decide +kernel) (pa_cons (pe_op op_addA (pe_op op_mulA (pv 4) pe_int) (pv 3)) pa_nil)) pe_int))
    (pss_one (ps_ret (pe_op op_mod (pe_callTy call_int1 (by rfl) T.z_int (by decide +kernel) (pa_cons (pv 5) pa_nil)) (pv 1))))))))))), ?_⟩
  have nq : q ≠ st := fun e => by
    subst e
    rw [hq] at hst
    injection hst with e
    injection e with e
    cases ns with
    | nil => cases e
    | cons n r => cases e
  dsimp only [cxOf, Cx.nox, Cx.wish, L2.start, List.map, List.length, List.replicate, List.append]
  refine ⟨fun σ H' => Here (∃ i v m c, σ = [some (.ref st), some (.int many), none, none, none, none] ∧ H' st = some (.lst [.ref q, .int i, .int v, .int m, .int c]) ∧ 0 ≤ i ∧ i ≤ (ns.length : Int) ∧ (∀ b o, b ≠ st → H b = some o → H' b = some o)), ?_, fun σ H' hM => ?_⟩
  · walk_at "rd"
    refine ite2 (fun e => ?_) (fun e => ?_)
    · walk_at "rd"
      refine ite2 (fun e => ?_) (fun e => ?_)
      · exact k 0 _ _ hst ⟨i, v, m, c, rfl, h0, h1⟩ (fun _ _ _ e => e) (Int.le_refl _) m0
      · have hi : i < (ns.length : Int) := by
          have q := of_decide_eq_false (Bool.eq_false_iff.mpr e)
          rw [List.length_map] at q
          omega
        have hx := at_ints h0 hi
        walk_at "rd"
        refine ite2 (fun e => ?_) (fun e => ?_)
        · walk_at "rd"
          exact .mk ⟨_, _, _, _, rfl, upd_same, by omega, by omega, fun b o nb e => by rw [upd_upd, upd_upd, upd_upd, upd_upd, upd_ne nb]; exact e⟩
        · exact .mk ⟨_, _, _, _, rfl, upd_same, by omega, by omega, fun b o nb e => by rw [upd_upd, upd_upd, upd_upd, upd_ne nb]; exact e⟩
    · exact .mk ⟨i, v, m, c, rfl, hst, h0, h1, fun _ _ _ e => e⟩
  · obtain ⟨i, v, m, c, rfl, hst, h0, h1, kp⟩ := hM.out
    walk_at "rd"
    refine ite2 (fun e => ?_) (fun e => ?_)
    · walk_at "rd"
      refine ite2 (fun e => ?_) (fun e => ?_)
      · refine iteT ?_
        walk_at "rd"
        exact k _ _ _ upd_same ⟨i, _, _, _, rfl, h0, h1⟩ (fun b o nb e => by rw [upd_upd, upd_upd, upd_ne nb]; exact kp b o nb e) (emod_ge' m0) (emod_lt' m0)
      · walk_at "rd"
        refine ite2 (fun e => ?_) (fun e => ?_)
        · walk_at "rd"
          exact k _ _ _ upd_same ⟨i, _, _, _, rfl, h0, h1⟩ (fun b o nb e => by rw [upd_upd, upd_upd, upd_ne nb]; exact kp b o nb e) (emod_ge' m0) (emod_lt' m0)
        · walk_at "rd"
          exact k _ _ _ upd_same ⟨i, _, _, _, rfl, h0, h1⟩ (fun b o nb e => by rw [upd_upd, upd_ne nb]; exact kp b o nb e) (emod_ge' m0) (emod_lt' m0)
    · walk_at "rd"
      refine ⟨fun σ H' => Here (∃ i v m c x y, σ = [some (.ref st), some (.int many), none, some (.int x), some (.int y), none] ∧ 0 ≤ y ∧ y < 2147483399 ∧ H' st = some (.lst [.ref q, .int i, .int v, .int m, .int c]) ∧ 0 ≤ i ∧ i ≤ (ns.length : Int) ∧ (∀ b o, b ≠ st → H b = some o → H' b = some o)), ?_, fun σ H' hM => ?_⟩
      · walk_at "rd"
        refine ite2 (fun e => ?_) (fun e => ?_)
        · walk_at "rd"
          exact .mk ⟨_, _, _, _, _, _, rfl, emod_ge' (by decide), emod_lt' (by decide), upd_same, h0, h1, fun b o nb e => by rw [upd_upd, upd_ne nb]; exact kp b o nb e⟩
        · exact .mk ⟨_, _, _, _, _, _, rfl, emod_ge' (by decide), emod_lt' (by decide), upd_same, h0, h1, fun b o nb e => by rw [upd_ne nb]; exact kp b o nb e⟩
      · obtain ⟨i, v, m, c, x, y, rfl, hy0, hy1, hst, h0, h1, kp⟩ := hM.out
        walk_at "rd"
        exact k _ _ _ hst ⟨i, _, _, _, rfl, h0, h1⟩ kp (emod_ge' m0) (emod_lt' m0)

theorem ok_law_pick (T : Tx K mg) : FnOk P w K mg base CX0 2 (He.fAd K at_law_pick) (fdOf K at_law_pick) ["state", "row"] (sp_pick K) := by
  have G_law_draw := ok_law_draw (P := P) (w := w) (base := base) T
  refine T.F_law_pick.ok sc_law_pick (fun vs H Q E h => ?_) (fun cdv A outer s H vs Q E hr h => ?_)
  · obtain ⟨_, _, rfl, _⟩ := h
    rfl
  obtain ⟨st, row, rfl, hst, h⟩ := h
  refine ⟨_, PSs.nox (pss_one (ps_ret (pe_ix ix_A (pv 1) (pe_call G_law_draw (hr.mono (by first | decide | omega)) (by rfl) T.m_law_draw T.F_law_draw.kp T.b_law_draw .nil pass0 (pa_cons (pv 0) (pa_cons (pe_callB call_lenA (by rfl) T.z_len PySem.boot_len (pa_cons (pv 1) pa_nil)) pa_nil))) (fun _ _ => rfl)))), ?_⟩
  dsimp only [cxOf, Cx.nox, Cx.wish, L2.start, List.map, List.length, List.replicate, List.append]
  rcases h with ⟨z, rfl, z0, z1, k⟩ | ⟨p, xs, rfl, hp, z0, z1, k⟩
  · have hb := line_big z1
    walk_at "rd"
    intro d H1 s1 d0 d1
    obtain ⟨c, e, m⟩ := at_str d0 d1
    exact .inr (.inr ⟨z, d, c, rfl, rfl, z1, e, k c H1 s1 m⟩)
  · have hb := line_big z1
    have hl : 0 < xs.length := List.length_pos_iff.mpr z0
    walk_at "rd"
    intro d H1 s1 d0 d1
    obtain ⟨v, e, _, m⟩ := at_list d0 d1
    exact .inl ⟨p, xs, d, v, rfl, rfl, SqL.of (s1 _ _ hp), e, k v H1 s1 m⟩

theorem cutV_to {xs : List V} {i : Int} (h0 : 0 ≤ i) : cutV xs none (some i) = xs.take i.toNat := by
  unfold cutV
  show List.take (HT.sIx xs.length xs.length (some i) - HT.sIx xs.length 0 none) (List.drop (HT.sIx xs.length 0 none) xs) = _
  rw [HT.sIx_none, sIx_nat' _ _ _ h0, List.drop_zero, Nat.sub_zero, ← List.take_eq_take_min]
theorem cutV_from {xs : List V} {i : Int} (h0 : 0 ≤ i) : cutV xs (some i) none = xs.drop i.toNat := by
  unfold cutV
  show List.take (HT.sIx xs.length xs.length none - HT.sIx xs.length 0 (some i)) (List.drop (HT.sIx xs.length 0 (some i)) xs) = _
  rw [HT.sIx_none, sIx_nat' _ _ _ h0]
  by_cases h : i.toNat ≤ xs.length
  · rw [Nat.min_eq_left h]
    exact List.take_of_length_le (by rw [List.length_drop]; exact Nat.le_refl _)
  · have e1 : List.drop (min i.toNat xs.length) xs = [] := List.drop_of_length_le (by omega)
    have e2 : List.drop i.toNat xs = [] := List.drop_of_length_le (by omega)
    rw [e1, e2]
    simp
/-- the same items in some order -/
def sp_mixed (K : PySem.W.Frag) : Sp := fun vs H Q _ => ∃ (st p : Addr) (xs : List V), vs = [.ref st, .ref p] ∧ StAt H st ∧ SqL K H p xs ∧ xs.length ≤ 1000 ∧ ∀ (q : Addr) (ys : List V) (H' : Hp), Same H H' → H q = none → H' q = some (.lst ys) → ys.Perm xs → Q (.ref q) H'
theorem ok_law_mixed (T : Tx K mg) : FnOk P w K mg base CX0 2 (He.fAd K at_law_mixed) (fdOf K at_law_mixed) ["state", "row"] (sp_mixed K) := by
  have G_law_draw := ok_law_draw (P := P) (w := w) (base := base) T
  refine T.F_law_mixed.ok sc_law_mixed (fun vs H Q E h => ?_) (fun cdv A outer s H vs Q E hr h => ?_)
  · obtain ⟨_, _, _, rfl, _⟩ := h
    rfl
  obtain ⟨st, p, xs, rfl, hst, hS, hl, k⟩ := h
  refine ⟨_, PSs.nox (pss_cons (ps_set (i := 2) sc_law_mixed.nd rfl (by first | exact .inl rfl | exact .inr rfl) (pe_callTy call_list_of (by rfl) T.z_list (by decide +kernel) (pa_cons (pv 1) pa_nil)))
    (pss_cons (ps_set (i := 3) sc_law_mixed.nd rfl (by first | exact .inl rfl | exact .inr rfl) (pe_lst pa_nil))
    (pss_cons (ps_for PassesOwn.never rfl (pi_range1 rfl T.z_range (pa_cons (pe_callB call_lenA (by rfl) T.z_len PySem.boot_len (pa_cons (pv 1) pa_nil)) pa_nil)) (pg_name (i := 4) sc_law_mixed.nd rfl (by first | exact .inl rfl | exact .inr rfl))
     (pss_cons (ps_set (i := 5) sc_law_mixed.nd rfl (by first | exact .inl rfl | exact .inr rfl) (pe_call G_law_draw (hr.mono (by first | decide | omega)) (by rfl) T.m_law_draw T.F_law_draw.kp T.b_law_draw .nil pass0 (pa_cons (pv 0) (pa_cons (pe_callB call_lenA (by rfl) T.z_len PySem.boot_len (pa_cons (pv 2) pa_nil)) pa_nil))))
     (pss_cons (ps_expr (pe_bm PySem.F.plainAttrs_list PySem.F.slot_list_append PySem.F.type_list_append mt_append (pv 3) (pa_cons (pe_ix ix_A (pv 2) (pv 5) (fun _ _ => rfl)) pa_nil)))
     (pss_one (ps_set (i := 2) sc_law_mixed.nd rfl (by first | exact .inl rfl | exact .inr rfl) (pe_op op_addA (pe_slice sl_A (pv 2) po_none (po_some (pv 5))) (pe_slice sl_A (pv 2) (po_some (pe_op op_addA (pv 5) pe_int)) po_none)))))))
    (pss_one (ps_ret (pv 3)))))), ?_⟩
  dsimp only [cxOf, Cx.nox, Cx.wish, L2.start, List.map, List.length, List.replicate, List.append]
  walk_at "rd"
  refine ⟨p, xs, rfl, .inl hS, fun r nr => ?_⟩
  walk_at "rd"
  intro q nq
  have nrq : r ≠ q := ne_of_none upd_same nq
  have hq0 : H q = none := (same_new nr).free nq
  have sm : Same H (upd (upd H r (.lst xs)) q (.lst [])) := (same_new nr).trans (same_new nq)
  have hS := sm.seq hS
  have hst0 := hst
  have hst := hst.mono sm
  walk_at "rd"
  refine for_range (fun i σ H' => Here (∃ (r : Addr) (rs ys : List V) (o o' : Option V), σ = [some (.ref st), some (.ref p), some (.ref r), some (.ref q), o, o'] ∧ Same H H' ∧ H' r = some (.lst rs) ∧ H' q = some (.lst ys) ∧ r ≠ q ∧ (ys ++ rs).Perm xs ∧ ys.length = i))
    (.mk ⟨r, xs, [], none, none, rfl, sm, by rw [upd_ne nrq]; exact upd_same, upd_same, nrq, .refl _, rfl⟩) (fun i σ H' hi z => ?_) (fun σ H' z => ?_)
  · obtain ⟨r, rs, ys, o, o', rfl, s1, hr1, hq1, nrq, hp, hy⟩ := z.out
    have hlen : ys.length + rs.length = xs.length := by rw [← List.length_append]; exact hp.length_eq
    have hst := hst0.mono s1
    walk_at "rd"
    intro d H1 s2 d0 d1
    obtain ⟨v, ev, ei, mv⟩ := at_list (xs := rs) d0 d1
    have hr2 := s2 _ _ hr1
    have hq2 := s2 _ _ hq1
    have zy : ys.length < sizeLine := by rw [sizeLine_eq]; omega
    have zr : rs.length ≤ sizeLine := by rw [sizeLine_eq]; omega
    walk_at "rd"
    refine ⟨.inl ⟨rfl, _, SqL.of hq2⟩, ?_⟩
    walk_at "rd"
    refine ⟨q, ys, v, rfl, rfl, hq2, zy, ?_⟩
    have hr3 : upd H1 q (.lst (ys ++ [v])) r = some (.lst rs) := by rw [upd_ne nrq]; exact hr2
    walk_at "rd"
    refine .inr (.inl ⟨r, rs, rfl, SqL.of hr3, fun a na => ?_⟩)
    have hr4 : upd (upd H1 q (.lst (ys ++ [v]))) a (.lst (cutV rs none (some d))) r = some (.lst rs) := by rw [upd_ne (ne_of_none hr3 na)]; exact hr3
    walk_at "rd"
    refine .inr (.inl ⟨r, rs, rfl, SqL.of hr4, fun b nb => ?_⟩)
    have nab : a ≠ b := ne_of_none upd_same nb
    have c1 : cutV rs none (some d) = rs.take d.toNat := cutV_to d0
    have c2 : cutV rs (some (d + 1)) none = rs.drop (d + 1).toNat := cutV_from (by omega)
    have zc : (cutV rs none (some d)).length + (cutV rs (some (d + 1)) none).length ≤ sizeLine := by
      rw [c1, c2, List.length_take, List.length_drop]
      rw [sizeLine_eq]
      omega
    walk_at "rd"
    intro r2 nr2
    have nqa : q ≠ a := ne_of_none upd_same na
    have nqb : q ≠ b := ne_of_none (by rw [upd_ne nqa]; exact upd_same) nb
    have nqr : q ≠ r2 := ne_of_none (by rw [upd_ne nqb, upd_ne nqa]; exact upd_same) nr2
    have sq : Same H (upd H1 q (.lst (ys ++ [v]))) := fun c u e => by rw [upd_ne (ne_of_none e hq0)]; exact s2 _ _ (s1 _ _ e)
    refine .mk ⟨r2, _, ys ++ [v], _, _, rfl, ((sq.trans (same_new na)).trans (same_new nb)).trans (same_new nr2), upd_same, by rw [upd_ne nqr, upd_ne nqb, upd_ne nqa]; exact upd_same, Ne.symm nqr, ?_, by rw [List.length_append, hy]; rfl⟩
    rw [c1, c2]
    have en : (d + 1).toNat = d.toNat + 1 := by omega
    have hd : d.toNat < rs.length := by omega
    have er : rs.take d.toNat ++ v :: rs.drop (d.toNat + 1) = rs := by
      have ev2 : rs[d.toNat] = v := by
        rw [List.getElem?_eq_getElem hd] at ei
        exact Option.some.inj ei
      rw [← ev2, ← List.drop_eq_getElem_cons hd, List.take_append_drop]
    rw [en]
    refine .trans ?_ hp
    rw [List.append_assoc]
    exact List.Perm.append_left ys ((List.perm_middle (a := v) (l₁ := rs.take d.toNat) (l₂ := rs.drop (d.toNat + 1))).symm.trans (List.Perm.of_eq er))
  · obtain ⟨r, rs, ys, o, o', rfl, s1, hr1, hq1, nrq, hp, hy⟩ := z.out
    have hlen : ys.length + rs.length = xs.length := by rw [← List.length_append]; exact hp.length_eq
    have e0 : rs = [] := List.length_eq_zero_iff.mp (by omega)
    subst e0
    rw [List.append_nil] at hp
    walk_at "rd"
    exact k q ys H' s1 hq0 hq1 hp

end
end K13
namespace K13
open PySem PySem.Spec PyProof.Rows L2 TK
section
variable {P : Program} {w : World} {K : PySem.W.Frag} {mg : Str → Option Value} {base : Heap}
def sp_is_int : Sp := fun vs H Q _ => ∃ (x : V) (d : D), vs = [x] ∧ Is H x d ∧ Q (.bl (match d with | .int _ => true | _ => false)) H
theorem ok_law_is_int (T : Tx K mg) : FnOk P w K mg base CX0 1 (He.fAd K at_law_is_int) (fdOf K at_law_is_int) ["thing"] sp_is_int := by
  refine T.F_law_is_int.ok sc_law_is_int (fun vs H Q E h => ?_) (fun cdv A outer s H vs Q E hr h => ?_)
  · obtain ⟨_, _, rfl, _⟩ := h
    rfl
  obtain ⟨x, d, rfl, hx, k⟩ := h
  refine ⟨_, PSs.nox (pss_one (ps_ret (pe_and (pe_callB call_isi (by rfl) T.z_isinstance (by decide +kernel) (pa_cons (pv 0) (pa_cons (pe_bltn (by rfl) T.z_int (by decide +kernel) (v := .ty "int") rfl) pa_nil))) (pe_one (pe_not (pe_callB call_isi (by rfl) T.z_isinstance (by decide +kernel) (pa_cons (pv 0) (pa_cons (pe_bltn (by rfl) T.z_bool (by decide +kernel) (v := .ty "bool") rfl) pa_nil)))))))), ?_⟩
  dsimp only [cxOf, Cx.nox, Cx.wish, L2.start, List.map, List.length, List.replicate, List.append]
  have hx' := hx
  cases hx <;> (walk_at "rdi"; exact k)
theorem ok_law_same1 (T : Tx K mg) {k : Nat} {R : D → Prop} (hk : 1 ≤ k) (G_law_same : FnOk P w K mg base CX0 k (He.fAd K at_law_same) (fdOf K at_law_same) ["actual", "due"] (sp_same R)) : FnOk P w K mg base CX0 (k + 1) (He.fAd K at_law_same) (fdOf K at_law_same) ["actual", "due"] (sp_same (Deeper R)) := by
  have G_law_is_int := (ok_law_is_int (P := P) (w := w) (base := base) T).mono hk
  refine T.F_law_same.ok sc_law_same (fun vs H Q E h => ?_) (fun cdv A outer s H vs Q E hr h => ?_)
  · obtain ⟨_, _, _, rfl, _⟩ := h
    rfl
  obtain ⟨x, y, d, rfl, hx, hy, hR, q⟩ := h
  refine ⟨_, PSs.nox (pss_cons (ps_if (pt_cmpR op_isN (pv 1) pe_non (nomark _))
     (pss_one (ps_ret (pe_cmpR op_isN (pv 0) pe_non (nomark _))))
     pss_nil)
    (pss_cons (ps_if (pt_cmpR op_isA (pv 1) pe_bl (nomark _))
     (pss_one (ps_ret (pe_cmpR op_isA (pv 0) pe_bl (nomark _))))
     pss_nil)
    (pss_cons (ps_if (pt_cmpR op_isA (pv 1) pe_bl (nomark _))
     (pss_one (ps_ret (pe_cmpR op_isA (pv 0) pe_bl (nomark _))))
     pss_nil)
    (pss_cons (ps_if (pt_val (pe_callB call_isi (by rfl) T.z_isinstance (by decide +kernel) (pa_cons (pv 1) (pa_cons (pe_bltn (by rfl) T.z_int (by decide +kernel) (v := .ty "int") rfl) pa_nil))))
     (pss_one (ps_ret (pe_and (pe_call G_law_is_int (hr.mono (by first | decide | omega)) (by rfl) T.m_law_is_int T.F_law_is_int.kp T.b_law_is_int .nil pass0 (pa_cons (pv 0) pa_nil)) (pe_one (pe_cmpR op_eqA (pv 0) (pv 1) (nomark _))))))
     pss_nil)
    (pss_cons (ps_if (pt_val (pe_callB call_isi (by rfl) T.z_isinstance (by decide +kernel) (pa_cons (pv 1) (pa_cons (pe_bltn (by rfl) T.z_str (by decide +kernel) (v := .ty "str") rfl) pa_nil))))
     (pss_one (ps_ret (pe_and (pe_callB call_isi (by rfl) T.z_isinstance (by decide +kernel) (pa_cons (pv 0) (pa_cons (pe_bltn (by rfl) T.z_str (by decide +kernel) (v := .ty "str") rfl) pa_nil))) (pe_one (pe_cmpR op_eqA (pv 0) (pv 1) (nomark _))))))
     pss_nil)
    (pss_cons (ps_if (pt_val (pe_callB call_isi (by rfl) T.z_isinstance (by decide +kernel) (pa_cons (pv 1) (pa_cons (pe_bltn (by rfl) T.z_dict (by decide +kernel) (v := .ty "dict") rfl) pa_nil))))
     (pss_cons (ps_if (PW.pt (pw_or (pt_not (pt_val (pe_callB call_isi (by rfl) T.z_isinstance (by decide +kernel) (pa_cons (pv 0) (pa_cons (pe_bltn (by rfl) T.z_dict (by decide +kernel) (v := .ty "dict") rfl) pa_nil))))) (pw_or1 (pt_cmpR op_neA (pe_callB call_lenX (by rfl) T.z_len PySem.boot_len (pa_cons (pv 0) pa_nil)) (pe_callB call_lenX (by rfl) T.z_len PySem.boot_len (pa_cons (pv 1) pa_nil)) (nomark _)))))
      (pss_one (ps_ret pe_bl))
      pss_nil)
     (pss_cons (ps_lock (ps_for PassesOwn.never rfl (pi_keys (pv 1)) (pg_name (i := 2) sc_law_same.nd rfl (by first | exact .inl rfl | exact .inr rfl)) (pss_one (ps_if (PW.pt (pw_or (pt_cmp (pc_dnotin (hu_of hr) (pv 2) (pv 0))) (pw_or1 (pt_not (pt_val (pe_call G_law_same (hr.mono (by first | decide | omega)) (by rfl) T.m_law_same T.F_law_same.kp T.b_law_same .nil pass0 (pa_cons (pe_dget (hu_of hr) (pv 0) (pv 2) (fun _ _ => rfl)) (pa_cons (pe_dget (hu_of hr) (pv 1) (pv 2) (fun _ _ => rfl)) pa_nil)))))))) (pss_one (ps_ret pe_bl)) pss_nil))))
     (pss_one (ps_ret pe_bl))))
     pss_nil)
    (pss_cons (ps_if (PW.pt (pw_and (pt_val (pe_callB call_isi (by rfl) T.z_isinstance (by decide +kernel) (pa_cons (pv 1) (pa_cons (pe_bltn (by rfl) T.z_list (by decide +kernel) (v := .ty "list") rfl) pa_nil)))) (pw_and1 (pt_not (pt_val (pe_callB call_isi (by rfl) T.z_isinstance (by decide +kernel) (pa_cons (pv 0) (pa_cons (pe_bltn (by rfl) T.z_list (by decide +kernel) (v := .ty "list") rfl) pa_nil))))))))
     (pss_one (ps_ret pe_bl))
     pss_nil)
    (pss_cons (ps_if (PW.pt (pw_and (pt_val (pe_callB call_isi (by rfl) T.z_isinstance (by decide +kernel) (pa_cons (pv 1) (pa_cons (pe_bltn (by rfl) T.z_tuple (by decide +kernel) (v := .ty "tuple") rfl) pa_nil)))) (pw_and1 (pt_not (pt_val (pe_callB call_isi (by rfl) T.z_isinstance (by decide +kernel) (pa_cons (pv 0) (pa_cons (pe_bltn (by rfl) T.z_tuple (by decide +kernel) (v := .ty "tuple") rfl) pa_nil))))))))
     (pss_one (ps_ret pe_bl))
     pss_nil)
    (pss_cons (ps_if (pt_cmpR op_neA (pe_callB call_lenX (by rfl) T.z_len PySem.boot_len (pa_cons (pv 0) pa_nil)) (pe_callB call_lenX (by rfl) T.z_len PySem.boot_len (pa_cons (pv 1) pa_nil)) (nomark _))
     (pss_one (ps_ret pe_bl))
     pss_nil)
    (pss_cons (ps_for PassesOwn.never rfl (pi_range1 rfl T.z_range (pa_cons (pe_callB call_lenX (by rfl) T.z_len PySem.boot_len (pa_cons (pv 1) pa_nil)) pa_nil)) (pg_name (i := 3) sc_law_same.nd rfl (by first | exact .inl rfl | exact .inr rfl))
     (pss_one (ps_if (pt_not (pt_val (pe_call G_law_same (hr.mono (by first | decide | omega)) (by rfl) T.m_law_same T.F_law_same.kp T.b_law_same .nil pass0 (pa_cons (pe_ix ix_A (pv 0) (pv 3) (fun _ _ => rfl)) (pa_cons (pe_ix ix_A (pv 1) (pv 3) (fun _ _ => rfl)) pa_nil)))))
      (pss_one (ps_ret pe_bl))
      pss_nil)))
    (pss_one (ps_ret pe_bl)))))))))))), ?_⟩
  dsimp only [cxOf, Cx.nox, Cx.wish, L2.start, List.map, List.length, List.replicate, List.append]
  have hx' := hx
  have hy' := hy
  cases hy with
  | non =>
    cases hx
    walk_at "rdi"
    exact same_end q
  | int i =>
    cases hx
    walk_at "rdi"
    exact same_end q
  | bl b =>
    cases hx
    cases b <;> (walk_at "rdi"; exact same_end q)
  | str s hz =>
    cases hx
    walk_at "rdi"
    exact same_end q
  | @lst p vs ds e z a =>
    cases hx with
    | @lst p2 vs2 _ e2 z2 a2 =>
      have el := a2.len.trans a.len.symm
      walk_at "rdi"
      rw [el, decide_eq_true rfl]
      refine iteF ?_
      walk_at "ri1"
      walk_at "ri1"
      refine ⟨_, rfl, by omega, by rw [sizeLine_eq] at z; omega, ?_⟩
      refine for_range (fun i σ H' => Here (∃ o, σ = [some (.ref p2), some (.ref p), none, o] ∧ Same H H')) (.mk ⟨none, rfl, Same.refl _⟩) (fun i σ H' hi q' => ?_) (fun σ H' q' => ?_)
      · obtain ⟨o, rfl, s1⟩ := q'.out
        have hl : i < vs.length := by omega
        have hl2 : i < vs2.length := by omega
        have g1 := List.getElem?_eq_getElem hl
        have g2 := List.getElem?_eq_getElem hl2
        obtain ⟨d, hd, ia⟩ := a.get g1
        obtain ⟨d', hd', ib⟩ := a2.get g2
        rw [hd] at hd'
        cases hd'
        have ia := ia.mono s1
        have ib := ib.mono s1
        have hRd : R d := hR d (List.mem_of_getElem? hd)
        have x1 : atI vs ((0 : Int) + (i : Nat)) = some vs[i] := by rw [Int.zero_add]; exact atI_nat g1
        have x2 : atI vs2 ((0 : Int) + (i : Nat)) = some vs2[i] := by rw [Int.zero_add]; exact atI_nat g2
        have e := s1 _ _ e
        have e2 := s1 _ _ e2
        walk_at "rdi"
        refine ⟨_, _, d, rfl, ib, ia, hRd, fun H'' s2 => ?_⟩
        walk_at "rdi"
        exact .mk ⟨_, rfl, s1.trans s2⟩
      · obtain ⟨o, rfl, s1⟩ := q'.out
        walk_at "rdi"
        exact q H' s1
  | @tup p vs ds e z a =>
    cases hx with
    | @tup p2 vs2 _ e2 z2 a2 =>
      have el := a2.len.trans a.len.symm
      have e : SqT K H p vs := .inl e
      have e2 : SqT K H p2 vs2 := .inl e2
      walk_at "rdi"
      rw [el, decide_eq_true rfl]
      refine iteF ?_
      walk_at "ri1"
      walk_at "ri1"
      refine ⟨_, rfl, by omega, by rw [sizeLine_eq] at z; omega, ?_⟩
      refine for_range (fun i σ H' => Here (∃ o, σ = [some (.ref p2), some (.ref p), none, o] ∧ Same H H')) (.mk ⟨none, rfl, Same.refl _⟩) (fun i σ H' hi q' => ?_) (fun σ H' q' => ?_)
      · obtain ⟨o, rfl, s1⟩ := q'.out
        have hl : i < vs.length := by omega
        have hl2 : i < vs2.length := by omega
        have g1 := List.getElem?_eq_getElem hl
        have g2 := List.getElem?_eq_getElem hl2
        obtain ⟨d, hd, ia⟩ := a.get g1
        obtain ⟨d', hd', ib⟩ := a2.get g2
        rw [hd] at hd'
        cases hd'
        have ia := ia.mono s1
        have ib := ib.mono s1
        have hRd : R d := hR d (List.mem_of_getElem? hd)
        have x1 : atI vs ((0 : Int) + (i : Nat)) = some vs[i] := by rw [Int.zero_add]; exact atI_nat g1
        have x2 : atI vs2 ((0 : Int) + (i : Nat)) = some vs2[i] := by rw [Int.zero_add]; exact atI_nat g2
        have e := sqT_same s1 e
        have e2 := sqT_same s1 e2
        walk_at "rdi"
        refine ⟨_, _, d, rfl, ib, ia, hRd, fun H'' s2 => ?_⟩
        walk_at "rdi"
        exact .mk ⟨_, rfl, s1.trans s2⟩
      · obtain ⟨o, rfl, s1⟩ := q'.out
        walk_at "rdi"
        exact q H' s1
  | @dic p kvs e nd z few =>
    cases hx with
    | @dic p2 _ e2 nd2 z2 few2 =>
      have hz' : (kvs.map dkv).length = kvs.length := List.length_map ..
      walk_at "rdi"
      refine .inl (.inr ⟨p2, _, rfl, e2, ?_⟩)
      walk_at "rdi"
      refine .inl (.inr ⟨p, _, rfl, e, ?_⟩)
      walk_at "rdi"
      have hne : (!decide (V.int ((kvs.map dkv).length : Nat) = V.int ((kvs.map dkv).length : Nat))) = false := by simp
      try rw [hne]
      walk_at "rdi"
      refine ⟨p, _, e, trivial, fun od => ?_⟩
      have s0 : ∀ {H' : Hp}, Same (upd H p (.frz od (.dK (kvs.map dkv)))) H' → Rd H' p2 (.dK (kvs.map dkv)) ∧ Rd H' p (.dK (kvs.map dkv)) := fun {H'} s1 => by
        have ep : H' p = some (.frz od (.dK (kvs.map dkv))) := s1 _ _ upd_same
        refine ⟨?_, .inr ⟨od, ep⟩⟩
        by_cases q2 : p2 = p
        · rw [q2]
          exact .inr ⟨od, ep⟩
        · exact .inl (s1 _ _ (by rw [upd_ne q2]; exact e2))
      refine ⟨_, rfl, p, od, rfl, .inl ⟨kvs.map dkv, upd_same, ?_⟩⟩
      refine for_keysD (fun i σ H' => Here (∃ o, σ = [some (.ref p2), some (.ref p), o, none] ∧ Same (upd H p (.frz od (.dK (kvs.map dkv)))) H')) (.mk ⟨none, rfl, Same.refl _⟩) (fun i σ H' _ y => ?_) (fun i ke v σ H' ek y => ?_) (fun σ H' y => ?_)
      · obtain ⟨_, _, s1⟩ := y.out
        exact s1 _ _ upd_same
      · obtain ⟨o, rfl, s1⟩ := y.out
        rw [List.getElem?_map] at ek
        obtain ⟨r, e1, e3⟩ := Option.map_eq_some_iff.mp ek
        obtain ⟨rk, rn⟩ := r
        obtain ⟨rfl, rfl⟩ := Prod.mk.inj e3
        have va := val_at nd e1
        obtain ⟨r2, r1⟩ := s0 s1
        have hRi : R (.int rn) := hR (rk, rn) (List.mem_of_getElem? e1)
        walk_at "rdi"
        refine ⟨p2, some (.int rn), rfl, .inl ⟨_, Sum.inr rk, r2, rfl, va.symm⟩, ?_⟩
        walk_at "rdi"
        refine ⟨p2, .int rn, rfl, .inl ⟨_, Sum.inr rk, r2, rfl, va.symm⟩, ?_⟩
        walk_at "rdi"
        refine ⟨p, .int rn, rfl, .inl ⟨_, Sum.inr rk, r1, rfl, va.symm⟩, ?_⟩
        refine ⟨.int rn, .int rn, .int rn, rfl, .int _, .int _, hRi, fun H'' s2 => ?_⟩
        walk_at "rdi"
        exact .mk ⟨_, rfl, s1.trans s2⟩
      · obtain ⟨o, rfl, s1⟩ := y.out
        refine ⟨s1 _ _ upd_same, ?_⟩
        walk_at "rdi"
        exact q _ (same_lock e s1)
/-- alike trees of depth n are told alike -/
theorem ok_law_same (T : Tx K mg) : ∀ n : Nat, FnOk P w K mg base CX0 (n + 2) (He.fAd K at_law_same) (fdOf K at_law_same) ["actual", "due"] (sp_same (Fits n))
  | 0 => ok_never.imp fun vs H Q E h => by
    obtain ⟨_, _, _, _, _, _, z, _⟩ := h
    exact z
  | n + 1 => ok_law_same1 T (by omega) (ok_law_same T n)

end
end K13
namespace K13
open PySem PySem.Spec PyProof.Rows L2 TK
theorem nm_long {z : Str} (h : 12 < z.length) : isName z = false := by
  unfold isName
  split
  · rfl
  · rw [if_pos (decide_eq_true (by omega))]
theorem nm_res {z : Str} (h : z ∈ c_RESERVED) : isName z = false := by
  unfold isName
  split
  · rfl
  split
  · rfl
  · rw [if_pos (by rw [inV_strs]; exact decide_eq_true h)]
theorem nm_char {z : Str} {c : Nat} (m : c ∈ z.cps.toList) (h : c ∉ letters.cps.toList) : isName z = false := by
  unfold isName
  split
  · rfl
  split
  · rfl
  split
  · rfl
  · rw [Bool.eq_false_iff]
    intro q
    exact h (by simpa using List.all_eq_true.mp q c m)
theorem nm_ok {z : Str} (h0 : z.cps.toList ≠ []) (h1 : z.length ≤ 12) (h2 : z ∉ c_RESERVED) (h3 : ∀ c ∈ z.cps.toList, c ∈ letters.cps.toList) : isName z = true := by
  unfold isName
  rw [if_neg (fun e => h0 (by have e := of_decide_eq_true e; cases V.str.inj e; rfl)), if_neg (fun e => by have := of_decide_eq_true e; omega), if_neg (fun e => by rw [inV_strs] at e; exact h2 (of_decide_eq_true e))]
  exact List.all_eq_true.mpr fun c m => decide_eq_true (h3 c m)
theorem isName_len {x : Str} (h : isName x = true) : x.length ≤ 12 := by
  unfold isName at h
  split at h
  · cases h
  split at h
  · cases h
  · rename_i z
    have : ¬ ((12 : Int) < (x.length : Int)) := fun y => z (decide_eq_true y)
    omega
theorem nm_ne {z : Str} (h : isName z = true) : 1 ≤ z.length := by
  cases q : z.cps.toList with
  | nil =>
    exfalso
    have : z = "" := str_ext (by rw [q]; rfl)
    rw [this] at h
    revert h
    decide +kernel
  | cons a l => rw [len_cps, q]; simp
abbrev resA : List Str := ["always", "never", "and", "or", "not", "when", "add", "set", "change", "tell", "refuse", "take"]
abbrev resB : List Str := ["look", "free", "lock", "keep", "keys", "fields"]
end K13
namespace K13
open PySem PySem.Spec PyProof.Rows L2 TK
theorem letters_at : ∀ i : Nat, i < 26 → letters.cps.toList[i]? = some (97 + i) := by decide +kernel
/-- the drawn letter of word k -/
def lett (s : Int) (k : Nat) : Nat := 97 + ((s + 7 * (k : Int)) % 26).toNat
theorem lett_inj {s : Int} {a b : Nat} (ha : a < 4) (hb : b < 4) (h : lett s a = lett s b) : a = b := by
  unfold lett at h
  omega
/-- a word with the letter c at ix -/
structure Okw (ix c : Nat) (z : Str) : Prop where
  at_ : z.cps.toList[ix]? = some c
  len : z.length ≤ 12
  abc : ∀ c ∈ z.cps.toList, c ∈ letters.cps.toList
theorem Okw.fin {ix c : Nat} {z : Str} (h : Okw ix c z) : ∃ y : Str, y = (if z ∈ c_RESERVED then z ++ ("z" : Str) else z) ∧ isName y = true ∧ y.cps.toList[ix]? = some c := by
  refine ⟨_, rfl, ?_⟩
  have ne : z.cps.toList ≠ [] := fun e => by
    have := h.at_
    rw [e] at this
    cases this
  split
  · rename_i m
    have key : ∀ y ∈ c_RESERVED, y.length ≤ 6 ∧ y.cps.toList.getLast? ≠ some 122 := by decide +kernel
    have e2 : (z ++ ("z" : Str)).cps.toList = z.cps.toList ++ [122] := by rw [cps_app]; rfl
    refine ⟨nm_ok (by rw [e2]; simp) ?_ (fun q => ?_) ?_, ?_⟩
    · have := (key z m).1
      rw [len_app]
      show _ + 1 ≤ 12
      omega
    · have := (key _ q).2
      rw [e2] at this
      simp at this
    · rw [e2]
      intro d md
      rcases List.mem_append.mp md with q | q
      · exact h.abc d q
      · cases List.mem_singleton.mp q
        decide +kernel
    · rw [e2, List.getElem?_append_left (List.getElem?_eq_some_iff.mp h.at_).1]
      exact h.at_
  · rename_i m
    exact ⟨nm_ok ne h.len m h.abc, h.at_⟩
theorem cps_one (c : Nat) : (⟨#[c]⟩ : Str).cps.toList = [c] := rfl
theorem okw_one {c : Nat} (m : c ∈ letters.cps.toList) : Okw 0 c ⟨#[c]⟩ := ⟨rfl, (by decide : 1 ≤ 12), fun d h => by rw [cps_one, List.mem_singleton] at h; exact h ▸ m⟩
theorem okw_mid {b : Str} {n c : Nat} (hb : b.length = 6) (hn : n ≤ 6) (hl : ∀ d ∈ b.cps.toList, d ∈ letters.cps.toList) (m : c ∈ letters.cps.toList) : Okw n c (cutS b none (some (n : Int)) ++ (⟨#[c]⟩ : Str) ++ cutS b (some (n : Int)) none) := by
  have h0 : (0 : Int) ≤ (n : Int) := by omega
  have hb' := hb
  rw [len_cps] at hb'
  have e1 := cutS_to (z := b) h0
  have e2 := cutS_from (z := b) h0
  rw [Int.toNat_natCast] at e1 e2
  have l1 : (b.cps.toList.take n).length = n := by rw [List.length_take]; omega
  refine ⟨?_, ?_, fun d h => ?_⟩
  · rw [cps_app, cps_app, e1, cps_one, List.append_assoc, List.getElem?_append_right (by omega), l1, Nat.sub_self]
    rfl
  · rw [len_app, len_app, cutS_lento h0, cutS_lenfrom h0, hb]
    show _ + 1 + _ ≤ 12
    omega
  · rw [cps_app, cps_app, e1, e2, cps_one] at h
    rcases List.mem_append.mp h with h | h
    · rcases List.mem_append.mp h with h | h
      · exact hl d (List.mem_of_mem_take h)
      · rw [List.mem_singleton.mp h]
        exact m
    · exact hl d (List.mem_of_mem_drop h)
theorem okw_pre {b : Str} {n : Int} {c : Nat} (hb : b.length = 6) (hn : 0 ≤ n) (hl : ∀ d ∈ b.cps.toList, d ∈ letters.cps.toList) (m : c ∈ letters.cps.toList) : Okw 0 c ((⟨#[c]⟩ : Str) ++ cutS b none (some n)) := by
  have e1 := cutS_to (z := b) hn
  refine ⟨?_, ?_, fun d h => ?_⟩
  · rw [cps_app, cps_one]
    rfl
  · rw [len_app, cutS_lento hn, hb]
    show 1 + _ ≤ 12
    omega
  · rw [cps_app, e1, cps_one] at h
    rcases List.mem_append.mp h with h | h
    · rw [List.mem_singleton.mp h]
      exact m
    · exact hl d (List.mem_of_mem_take h)
theorem okw_big {b : Str} {c : Nat} (hb : b.length = 6) (hl : ∀ d ∈ b.cps.toList, d ∈ letters.cps.toList) (m : c ∈ letters.cps.toList) : Okw 5 c (cutS b none (some (5 : Int)) ++ (⟨#[c]⟩ : Str) ++ b) := by
  have h0 : (0 : Int) ≤ 5 := by decide
  have hb' := hb
  rw [len_cps] at hb'
  have e1 : (cutS b none (some (5 : Int))).cps.toList = b.cps.toList.take 5 := cutS_to (z := b) h0
  have l1 : (b.cps.toList.take 5).length = 5 := by rw [List.length_take]; omega
  refine ⟨?_, ?_, fun d h => ?_⟩
  · rw [cps_app, cps_app, e1, cps_one, List.append_assoc, List.getElem?_append_right (by omega), l1]
    rfl
  · rw [len_app, len_app, cutS_lento h0, hb]
    show _ + 1 + _ ≤ 12
    omega
  · rw [cps_app, cps_app, e1, cps_one] at h
    rcases List.mem_append.mp h with h | h
    · rcases List.mem_append.mp h with h | h
      · exact hl d (List.mem_of_mem_take h)
      · rw [List.mem_singleton.mp h]
        exact m
    · exact hl d h
def ixOf (style : Int) (spot : Nat) : Nat := if style = 1 then spot else if style = 3 then 5 else 0
def sp_names : Sp := fun vs H Q _ => ∃ (st : Addr), vs = [.ref st, .int 4] ∧ StAt H st ∧ ∀ (q : Addr) (H' : Hp) (ns : List Str), Same H H' → H q = none → H' q = some (.lst (ns.map V.str)) → ns.length = 4 → ns.Nodup → (∀ y ∈ ns, isName y = true) → Q (.ref q) H'
section
variable {P : Program} {w : World} {K : PySem.W.Frag} {mg : Str → Option Value} {base : Heap}
theorem ok_names (T : Tx K mg) : FnOk P w K mg base CX0 2 (He.fAd K at_law_names) (fdOf K at_law_names) ["state", "many"] sp_names := by
  have G_law_draw := ok_law_draw (P := P) (w := w) (base := base) T
  refine T.F_law_names.ok sc_law_names (fun vs H Q E h => ?_) (fun cdv A outer s H vs Q E hr h => ?_)
  · obtain ⟨_, rfl, _⟩ := h
    rfl
  obtain ⟨st, rfl, hst, k⟩ := h
  refine ⟨_, PSs.nox (pss_cons (ps_set (i := 2) sc_law_names.nd rfl (by first | exact .inl rfl | exact .inr rfl) pe_str)
    (pss_cons (ps_set (i := 3) sc_law_names.nd rfl (by first | exact .inl rfl | exact .inr rfl) (pe_call G_law_draw (hr.mono (by first | decide | omega)) (by rfl) T.m_law_draw T.F_law_draw.kp T.b_law_draw .nil pass0 (pa_cons (pv 0) (pa_cons pe_int pa_nil))))
    (pss_cons (ps_set (i := 4) sc_law_names.nd rfl (by first | exact .inl rfl | exact .inr rfl) (pe_call G_law_draw (hr.mono (by first | decide | omega)) (by rfl) T.m_law_draw T.F_law_draw.kp T.b_law_draw .nil pass0 (pa_cons (pv 0) (pa_cons pe_int pa_nil))))
    (pss_cons (ps_set (i := 5) sc_law_names.nd rfl (by first | exact .inl rfl | exact .inr rfl) (pe_call G_law_draw (hr.mono (by first | decide | omega)) (by rfl) T.m_law_draw T.F_law_draw.kp T.b_law_draw .nil pass0 (pa_cons (pv 0) (pa_cons pe_int pa_nil))))
    (pss_cons (ps_set (i := 6) sc_law_names.nd rfl (by first | exact .inl rfl | exact .inr rfl) (pe_call G_law_draw (hr.mono (by first | decide | omega)) (by rfl) T.m_law_draw T.F_law_draw.kp T.b_law_draw .nil pass0 (pa_cons (pv 0) (pa_cons pe_int pa_nil))))
    (pss_cons (ps_set (i := 7) sc_law_names.nd rfl (by first | exact .inl rfl | exact .inr rfl) pe_str)
    (pss_cons (ps_for PassesOwn.never rfl (pi_range1 rfl T.z_range (pa_cons pe_int pa_nil)) (pg_name (i := 8) sc_law_names.nd rfl (by first | exact .inl rfl | exact .inr rfl))
     (pss_cons (ps_set (i := 7) sc_law_names.nd rfl (by first | exact .inl rfl | exact .inr rfl) (pe_op op_addA (pv 7) (pe_ix ix_A (pv 2) (pe_op op_mod (pe_callTy call_int1 (by rfl) T.z_int (by decide +kernel) (pa_cons (pv 5) pa_nil)) pe_int) (fun _ _ => rfl))))
     (pss_one (ps_set (i := 5) sc_law_names.nd rfl (by first | exact .inl rfl | exact .inr rfl) (pe_op op_fdivW (pe_callTy call_int1 (by rfl) T.z_int (by decide +kernel) (pa_cons (pv 5) pa_nil)) pe_int)))))
    (pss_cons (ps_set (i := 9) sc_law_names.nd rfl (by first | exact .inl rfl | exact .inr rfl) (pe_lst (pa_cons pe_str (pa_cons pe_str (pa_cons pe_str (pa_cons pe_str (pa_cons pe_str (pa_cons pe_str (pa_cons pe_str (pa_cons pe_str (pa_cons pe_str (pa_cons pe_str (pa_cons pe_str (pa_cons pe_str pa_nil))))))))))))))
    (pss_cons (ps_set (i := 9) sc_law_names.nd rfl (by first | exact .inl rfl | exact .inr rfl) (pe_op op_addA (pv 9) (pe_lst (pa_cons pe_str (pa_cons pe_str (pa_cons pe_str (pa_cons pe_str (pa_cons pe_str (pa_cons pe_str pa_nil)))))))))
    (pss_cons (ps_set (i := 10) sc_law_names.nd rfl (by first | exact .inl rfl | exact .inr rfl) (pe_lst pa_nil))
    (pss_cons (ps_for PassesOwn.never rfl (pi_range1 rfl T.z_range (pa_cons (pv 1) pa_nil)) (pg_name (i := 8) sc_law_names.nd rfl (by first | exact .inl rfl | exact .inr rfl))
     (pss_cons (ps_set (i := 11) sc_law_names.nd rfl (by first | exact .inl rfl | exact .inr rfl) (pe_ix ix_A (pv 2) (pe_op op_mod (pe_callTy call_int1 (by rfl) T.z_int (by decide +kernel) (pa_cons (pe_op op_addA (pv 4) (pe_op op_mulA pe_int (pv 8))) pa_nil)) pe_int) (fun _ _ => rfl)))
     (pss_cutT (ps_if (pt_cmpR op_eqA (pv 3) pe_int (nomark _))
      (pss_one (ps_set (i := 11) sc_law_names.nd rfl (by first | exact .inl rfl | exact .inr rfl) (pe_op op_addA (pe_op op_addA (pe_slice sl_A (pv 7) po_none (po_some (pv 6))) (pv 11)) (pe_slice sl_A (pv 7) (po_some (pv 6)) po_none))))
      pss_nil)
     (pss_cutT (ps_if (pt_cmpR op_eqA (pv 3) pe_int (nomark _))
      (pss_one (ps_set (i := 11) sc_law_names.nd rfl (by first | exact .inl rfl | exact .inr rfl) (pe_op op_addA (pv 11) (pe_slice sl_A (pv 7) po_none (po_some (pe_op op_mod (pe_callTy call_int1 (by rfl) T.z_int (by decide +kernel) (pa_cons (pe_op op_addA (pe_op op_mulA pe_int (pv 8)) (pv 6)) pa_nil)) pe_int))))))
      pss_nil)
     (pss_cutT (ps_if (pt_cmpR op_eqA (pv 3) pe_int (nomark _))
      (pss_one (ps_set (i := 11) sc_law_names.nd rfl (by first | exact .inl rfl | exact .inr rfl) (pe_op op_addA (pe_op op_addA (pe_slice sl_A (pv 7) po_none (po_some pe_int)) (pv 11)) (pv 7))))
      pss_nil)
     (pss_cutT (ps_if (pt_cmpR op_inA (pv 11) (pv 9) (by rfl))
      (pss_one (ps_set (i := 11) sc_law_names.nd rfl (by first | exact .inl rfl | exact .inr rfl) (pe_op op_addA (pv 11) pe_str)))
      pss_nil)
     (pss_one (ps_expr (pe_bm PySem.F.plainAttrs_list PySem.F.slot_list_append PySem.F.type_list_append mt_append (pv 10) (pa_cons (pv 11) pa_nil))))))))))
    (pss_one (ps_ret (pv 10)))))))))))))), ?_⟩
  dsimp only [cxOf, Cx.nox, Cx.wish, L2.start, List.map, List.length, List.replicate, List.append]
  walk_at "rd"
  intro style H1 s1 y0 y1
  have hst := hst.mono s1
  walk_at "rd"
  intro shift H2 s2 h0 h1
  have hst := hst.mono s2
  walk_at "rd"
  intro code H3 s3 c0 c1
  have hst := hst.mono s3
  walk_at "rd"
  intro spot H4 s4 p0 p1
  obtain ⟨spot, rfl⟩ : ∃ n : Nat, spot = n := ⟨spot.toNat, by omega⟩
  have sA := ((s1.trans s2).trans s3).trans s4
  walk_at "rd"
  refine for_range (fun i σ H' => Here (∃ (x : Str) (c : Int) (o : Option V), σ = [some (.ref st), some (.int 4), some (.str letters), some (.int style), some (.int shift), some (.int c), some (.int spot), some (.str x), o, none, none, none] ∧ H' = H4 ∧ x.length = i ∧ ∀ c ∈ x.cps.toList, c ∈ letters.cps.toList))
    (.mk ⟨"", code, none, rfl, rfl, rfl, fun c hc => by cases hc⟩) (fun i σ H' hi y => ?_) (fun σ H' y => ?_)
  · obtain ⟨x, c, o, rfl, rfl, hx, hc⟩ := y.out
    obtain ⟨ch, ech, mch⟩ := at_str (z := letters) (i := c % 26) (emod_ge' (by decide)) (emod_lt' (by decide))
    have hi' : i < 6 := by omega
    have hz : x.length + (⟨#[ch]⟩ : Str).length ≤ sizeLine := app_len (m := 1) (Nat.le_refl _) (Nat.le_refl _) (by omega)
    walk_at "rd"
    exact .mk ⟨_, _, _, rfl, rfl, by rw [len_app, hx]; rfl, sgn_app hc mch⟩
  obtain ⟨base, c, o, rfl, e, hx, hc⟩ := y.out
  cases e
  have hx : base.length = 6 := hx
  walk_at "rd"
  intro p np
  walk_at "rd"
  intro q nq
  have npq : p ≠ q := ne_of_none upd_same nq
  refine .inr (.inr (.inl ⟨p, q, _, _, rfl, rfl, by walk_at "hp", upd_same, Nat.le_of_ble_eq_true rfl, fun r nr => ?_⟩))
  have sB : Same H4 (upd (upd (upd H4 p (.lst (resA.map V.str))) q (.lst (resB.map V.str))) r (.lst (resA.map V.str ++ resB.map V.str))) := ((same_new (o := .lst (resA.map V.str)) np).trans ((same_new (o := .lst (resB.map V.str)) nq).trans (same_new (o := .lst (resA.map V.str ++ resB.map V.str)) nr)))
  walk_at "rd"
  intro t nt
  have tH : H4 t = none := sB.free nt
  have nrt : r ≠ t := ne_of_none upd_same nt
  walk_at "rd"
  refine for_range (fun i σ H' => Here (∃ (ws : List Str) (o1 o2 : Option V), σ = [some (.ref st), some (.int 4), some (.str letters), some (.int style), some (.int shift), some (.int c), some (.int (spot : Nat)), some (.str base), o1, some (.ref r), some (.ref t), o2] ∧ Same H4 H' ∧
    H' r = some (.lst (c_RESERVED.map V.str)) ∧ H' t = some (.lst (ws.map V.str)) ∧ ws.length = i ∧ ∀ j z, ws[j]? = some z → isName z = true ∧ z.cps.toList[ixOf style spot]? = some (lett shift j)))
    (.mk ⟨[], _, _, rfl, sB.trans (same_new nt), by rw [upd_ne nrt]; exact upd_same, upd_same, rfl, fun j z e => by cases e⟩) (fun i σ H' hi y => ?_) (fun σ H' y => ?_)
  · obtain ⟨ws, o1, o2, rfl, s5, hr', ht', hw, hall⟩ := y.out
    have hi' : i < 4 := by omega
    have e0 : (shift + 7 * ((0 : Int) + (i : Nat))) % 26 = (((shift + 7 * ((0 : Int) + (i : Nat))) % 26).toNat : Nat) := by omega
    have ech : atI letters.cps.toList ((shift + 7 * ((0 : Int) + (i : Nat))) % 26) = some (lett shift i) := by
      rw [e0, atI_nat (letters_at _ (by omega))]
      unfold lett
      rw [Int.zero_add]
    have mch : lett shift i ∈ letters.cps.toList := by
      have := letters_at ((shift + 7 * ((0 : Int) + (i : Nat))) % 26).toNat (by omega)
      have := List.mem_of_getElem? this
      unfold lett
      rw [Int.zero_add] at this
      exact this
    walk_at "rd"
    have lc : (⟨#[lett shift i]⟩ : Str).length = 1 := rfl
    have hbz : base.length ≤ sizeLine := by rw [sizeLine_eq]; omega
    have sp6 : spot ≤ 6 := by omega
    have ps0 : (0 : Int) ≤ (spot : Int) := by omega
    refine ⟨fun σ H'' => Here (∃ z : Str, σ = [some (.ref st), some (.int 4), some (.str letters), some (.int style), some (.int shift), some (.int c), some (.int (spot : Nat)), some (.str base), some (.int (0 + (i : Nat))), some (.ref r), some (.ref t), some (.str z)] ∧ H'' = H' ∧ (style = 1 → Okw spot (lett shift i) z) ∧ (style ≠ 1 → z = ⟨#[lett shift i]⟩)), ?_, fun σ H'' y => ?_⟩
    · walk_at "rd"
      refine ite2 (fun e => ?_) (fun e => ?_)
      · have e : style = 1 := by have e := of_decide_eq_true e; injection e
        have b1 : (cutS base none (some (spot : Int))).length + (⟨#[lett shift i]⟩ : Str).length ≤ sizeLine := app_len (n := 6) (m := 1) (by rw [cutS_lento ps0]; omega) (Nat.le_refl _) (by decide)
        have b2 : (cutS base none (some (spot : Int)) ++ (⟨#[lett shift i]⟩ : Str)).length + (cutS base (some (spot : Int)) none).length ≤ sizeLine := app_len (n := 7) (m := 6) (by rw [len_app, cutS_lento ps0, lc]; omega) (by rw [cutS_lenfrom ps0]; omega) (by decide)
        walk_at "rd"
        exact .mk ⟨_, rfl, rfl, fun _ => okw_mid hx sp6 hc mch, fun n => (n e).elim⟩
      · have e : style ≠ 1 := fun q => e (decide_eq_true (by rw [q]))
        exact .mk ⟨_, rfl, rfl, fun n => (e n).elim, fun _ => rfl⟩
    obtain ⟨z, rfl, e, z1, z2⟩ := y.out
    cases e
    refine ⟨fun σ H'' => Here (∃ z : Str, σ = [some (.ref st), some (.int 4), some (.str letters), some (.int style), some (.int shift), some (.int c), some (.int (spot : Nat)), some (.str base), some (.int (0 + (i : Nat))), some (.ref r), some (.ref t), some (.str z)] ∧ H'' = H' ∧ (style = 1 → Okw spot (lett shift i) z) ∧ (style = 2 → Okw 0 (lett shift i) z) ∧ (style ≠ 1 → style ≠ 2 → z = ⟨#[lett shift i]⟩)), ?_, fun σ H'' y => ?_⟩
    · walk_at "rd"
      refine ite2 (fun e => ?_) (fun e => ?_)
      · have e : style = 2 := by have e := of_decide_eq_true e; injection e
        cases z2 (by omega)
        have n0 : (0 : Int) ≤ (3 * ((0 : Int) + (i : Nat)) + (spot : Nat)) % 7 := by omega
        have b1 : (⟨#[lett shift i]⟩ : Str).length + (cutS base none (some ((3 * ((0 : Int) + (i : Nat)) + (spot : Nat)) % 7))).length ≤ sizeLine := app_len (n := 1) (m := 6) (Nat.le_refl _) (by rw [cutS_lento n0]; omega) (by decide)
        walk_at "rd"
        exact .mk ⟨_, rfl, rfl, fun n => absurd n (by omega), fun _ => okw_pre hx n0 hc mch, fun _ n => (n e).elim⟩
      · have e : style ≠ 2 := fun q => e (decide_eq_true (by rw [q]))
        exact .mk ⟨_, rfl, rfl, z1, fun n => (e n).elim, fun n _ => z2 n⟩
    obtain ⟨z, rfl, e, z1, z2, z3⟩ := y.out
    cases e
    refine ⟨fun σ H'' => Here (∃ z : Str, σ = [some (.ref st), some (.int 4), some (.str letters), some (.int style), some (.int shift), some (.int c), some (.int (spot : Nat)), some (.str base), some (.int (0 + (i : Nat))), some (.ref r), some (.ref t), some (.str z)] ∧ H'' = H' ∧ Okw (ixOf style spot) (lett shift i) z), ?_, fun σ H'' y => ?_⟩
    · walk_at "rd"
      refine ite2 (fun e => ?_) (fun e => ?_)
      · have e : style = 3 := by have e := of_decide_eq_true e; injection e
        cases z3 (by omega) (by omega)
        have b1 : (cutS base none (some (5 : Int))).length + (⟨#[lett shift i]⟩ : Str).length ≤ sizeLine := app_len (n := 6) (m := 1) (by rw [cutS_lento (by decide)]; omega) (Nat.le_refl _) (by decide)
        have b2 : (cutS base none (some (5 : Int)) ++ (⟨#[lett shift i]⟩ : Str)).length + base.length ≤ sizeLine := app_len (n := 7) (m := 6) (by rw [len_app, cutS_lento (by decide), lc]; omega) (by omega) (by decide)
        walk_at "rd"
        refine .mk ⟨_, rfl, rfl, ?_⟩
        unfold ixOf
        rw [if_neg (by omega), if_pos e]
        exact okw_big hx hc mch
      · have e : style ≠ 3 := fun q => e (decide_eq_true (by rw [q]))
        refine .mk ⟨_, rfl, rfl, ?_⟩
        unfold ixOf
        by_cases q : style = 1
        · rw [if_pos q]
          exact z1 q
        · rw [if_neg q, if_neg e]
          by_cases q2 : style = 2
          · exact z2 q2
          · rw [z3 q q2]
            exact okw_one mch
    obtain ⟨z, rfl, e, z1⟩ := y.out
    cases e
    obtain ⟨wd, ey, yn, ya⟩ := z1.fin
    refine ⟨fun σ H'' => Here (σ = [some (.ref st), some (.int 4), some (.str letters), some (.int style), some (.int shift), some (.int c), some (.int (spot : Nat)), some (.str base), some (.int (0 + (i : Nat))), some (.ref r), some (.ref t), some (.str wd)] ∧ H'' = H'), ?_, fun σ H'' y => ?_⟩
    · have zl : z.length + ("z" : Str).length ≤ sizeLine := app_len (n := 12) (m := 1) z1.len (by decide) (by decide)
      walk_at "rd"
      refine ite2 (fun e => ?_) (fun e => ?_)
      · rw [inV_strs] at e
        rw [if_pos (of_decide_eq_true e)] at ey
        walk_at "rd"
        rw [ey]
        exact .mk ⟨rfl, rfl⟩
      · rw [inV_strs] at e
        rw [if_neg (fun q => e (decide_eq_true q))] at ey
        rw [ey]
        exact .mk ⟨rfl, rfl⟩
    obtain ⟨rfl, e⟩ := y.out
    cases e
    walk_at "rd"
    refine ⟨.inl ⟨rfl, _, SqL.of ht'⟩, ?_⟩
    walk_at "rd"
    refine ⟨t, _, _, rfl, rfl, ht', by rw [List.length_map, sizeLine_eq]; omega, ?_⟩
    walk_at "rd"
    refine .mk ⟨ws ++ [wd], _, _, rfl, fun b o q => by rw [upd_ne (ne_of_none q tH)]; exact s5 _ _ q, by rw [upd_ne nrt]; exact hr', by rw [upd_same, List.map_append]; rfl, by rw [List.length_append, hw]; rfl, fun j z2 e => ?_⟩
    by_cases lt : j < ws.length
    · rw [List.getElem?_append_left lt] at e
      exact hall j z2 e
    · rw [List.getElem?_append_right (by omega)] at e
      have : j = i := by
        have := (List.getElem?_eq_some_iff.mp e).1
        simp at this
        omega
      subst this
      rw [hw, Nat.sub_self] at e
      cases e
      exact ⟨yn, ya⟩
  · obtain ⟨ws, o1, o2, rfl, s5, hr', ht', hw, hall⟩ := y.out
    have hw : ws.length = 4 := hw
    walk_at "rd"
    refine k t H' ws (sA.trans s5) (sA.free tH) ht' hw ?_ fun y m => ?_
    · refine List.pairwise_iff_getElem.mpr fun a b ha hb lt e => ?_
      have e1 := (hall a _ (List.getElem?_eq_getElem ha)).2
      have e2 := (hall b _ (List.getElem?_eq_getElem hb)).2
      rw [e, e2] at e1
      have := lett_inj (by omega) (by omega) (Option.some.inj e1)
      omega
    · obtain ⟨j, hj, e⟩ := List.getElem_of_mem m
      exact (hall j y (by rw [← e]; exact List.getElem?_eq_getElem hj)).1
end
end K13
namespace K13
open PySem PySem.Spec PyProof.Rows L2 TK
def sp_num : Sp := fun vs H Q _ => ∃ (st : Addr), vs = [.ref st] ∧ StAt H st ∧ ∀ (n : Int) (H' : Hp), Same H H' → -B30 ≤ n → n ≤ B30 → Q (.int n) H'
theorem p30 : (10 : Int) ^ Int.toNat 30 = 1000000000000000000000000000000 := by decide +kernel
section
variable {P : Program} {w : World} {K : PySem.W.Frag} {mg : Str → Option Value} {base : Heap}
theorem ok_number (T : Tx K mg) : FnOk P w K mg base CX0 2 (He.fAd K at_law_number) (fdOf K at_law_number) ["state"] sp_num := by
  have G_law_draw := ok_law_draw (P := P) (w := w) (base := base) T
  refine T.F_law_number.ok sc_law_number (fun vs H Q E h => ?_) (fun cdv A outer s H vs Q E hr h => ?_)
  · obtain ⟨_, rfl, _⟩ := h
    rfl
  obtain ⟨st, rfl, hst, k⟩ := h
  refine ⟨_, PSs.nox (pss_cons (ps_set (i := 1) sc_law_number.nd rfl (by first | exact .inl rfl | exact .inr rfl) (pe_call G_law_draw (hr.mono (by first | decide | omega)) (by rfl) T.m_law_draw T.F_law_draw.kp T.b_law_draw .nil pass0 (pa_cons (pv 0) (pa_cons pe_int pa_nil))))
    (pss_cons (ps_if (pt_cmpR op_ltA (pv 1) pe_int (nomark _))
     (pss_one (ps_ret (pe_op op_sub (pe_call G_law_draw (hr.mono (by first | decide | omega)) (by rfl) T.m_law_draw T.F_law_draw.kp T.b_law_draw .nil pass0 (pa_cons (pv 0) (pa_cons pe_int pa_nil))) pe_int)))
     pss_nil)
    (pss_cons (ps_if (pt_cmpR op_eqA (pv 1) pe_int (nomark _))
     (pss_one (ps_ret (pe_op op_sub (pe_call G_law_draw (hr.mono (by first | decide | omega)) (by rfl) T.m_law_draw T.F_law_draw.kp T.b_law_draw .nil pass0 (pa_cons (pv 0) (pa_cons pe_int pa_nil))) pe_int)))
     pss_nil)
    (pss_cons (ps_if (pt_cmpR op_eqA (pv 1) pe_int (nomark _))
     (pss_one (ps_ret (pe_op op_sub (pe_op op_pow pe_int pe_int) (pe_call G_law_draw (hr.mono (by first | decide | omega)) (by rfl) T.m_law_draw T.F_law_draw.kp T.b_law_draw .nil pass0 (pa_cons (pv 0) (pa_cons pe_int pa_nil))))))
     pss_nil)
    (pss_cons (ps_if (pt_cmpR op_eqA (pv 1) pe_int (nomark _))
     (pss_one (ps_ret (pe_op op_sub (pe_call G_law_draw (hr.mono (by first | decide | omega)) (by rfl) T.m_law_draw T.F_law_draw.kp T.b_law_draw .nil pass0 (pa_cons (pv 0) (pa_cons pe_int pa_nil))) (pe_op op_pow pe_int pe_int))))
     pss_nil)
    (pss_one (ps_ret (pe_op op_sub (pe_call G_law_draw (hr.mono (by first | decide | omega)) (by rfl) T.m_law_draw T.F_law_draw.kp T.b_law_draw .nil pass0 (pa_cons (pv 0) (pa_cons (pe_op op_addA (pe_op op_mulA pe_int (pe_op op_pow pe_int pe_int)) pe_int) pa_nil))) (pe_op op_pow pe_int pe_int))))))))), ?_⟩
  dsimp only [cxOf, Cx.nox, Cx.wish, L2.start, List.map, List.length, List.replicate, List.append]
  walk_at "rd"
  intro kind H1 s1 d0 d1
  have hst := hst.mono s1
  clear d0 d1
  walk_at "rd"
  refine ite2 (fun e => ?_) (fun e => ?_)
  · walk_at "rd"
    intro d H2 s2 d0 d1
    walk_at "rd"
    exact k _ H2 (s1.trans s2) (by have e := p30; show (-1000000000000000000000000000000 : Int) ≤ _; omega) (by have e := p30; show _ ≤ (1000000000000000000000000000000 : Int); omega)
  walk_at "rd"
  refine ite2 (fun e => ?_) (fun e => ?_)
  · walk_at "rd"
    intro d H2 s2 d0 d1
    walk_at "rd"
    exact k _ H2 (s1.trans s2) (by have e := p30; show (-1000000000000000000000000000000 : Int) ≤ _; omega) (by have e := p30; show _ ≤ (1000000000000000000000000000000 : Int); omega)
  walk_at "rd"
  refine ite2 (fun e => ?_) (fun e => ?_)
  · walk_at "rd"
    intro d H2 s2 d0 d1
    walk_at "rd"
    exact k _ H2 (s1.trans s2) (by have e := p30; show (-1000000000000000000000000000000 : Int) ≤ _; omega) (by have e := p30; show _ ≤ (1000000000000000000000000000000 : Int); omega)
  walk_at "rd"
  refine ite2 (fun e => ?_) (fun e => ?_)
  · walk_at "rd"
    intro d H2 s2 d0 d1
    walk_at "rd"
    exact k _ H2 (s1.trans s2) (by have e := p30; show (-1000000000000000000000000000000 : Int) ≤ _; omega) (by have e := p30; show _ ≤ (1000000000000000000000000000000 : Int); omega)
  walk_at "rd"
  refine ⟨lt_big40 (by rw [p30]; decide +kernel), fun d H2 s2 d0 d1 => ?_⟩
  walk_at "rd"
  exact k _ H2 (s1.trans s2) (by have e := p30; show (-1000000000000000000000000000000 : Int) ≤ _; omega) (by have e := p30; show _ ≤ (1000000000000000000000000000000 : Int); omega)
theorem ok_constant (T : Tx K mg) : FnOk P w K mg base CX0 3 (He.fAd K at_law_constant) (fdOf K at_law_constant) ["state"] sp_num := by
  have G_law_draw := ok_law_draw (P := P) (w := w) (base := base) T
  have G_law_number := ok_number (P := P) (w := w) (base := base) T
  refine T.F_law_constant.ok sc_law_constant (fun vs H Q E h => ?_) (fun cdv A outer s H vs Q E hr h => ?_)
  · obtain ⟨_, rfl, _⟩ := h
    rfl
  obtain ⟨st, rfl, hst, k⟩ := h
  refine ⟨_, PSs.nox (pss_cons (ps_if (pt_cmpR op_ltA (pe_call G_law_draw (hr.mono (by first | decide | omega)) (by rfl) T.m_law_draw T.F_law_draw.kp T.b_law_draw .nil pass0 (pa_cons (pv 0) (pa_cons pe_int pa_nil))) pe_int (nomark _))
     (pss_one (ps_ret (pe_op op_sub (pe_call G_law_draw (hr.mono (by first | decide | omega)) (by rfl) T.m_law_draw T.F_law_draw.kp T.b_law_draw .nil pass0 (pa_cons (pv 0) (pa_cons pe_int pa_nil))) pe_int)))
     pss_nil)
    (pss_one (ps_ret (pe_call G_law_number (hr.mono (by first | decide | omega)) (by rfl) T.m_law_number T.F_law_number.kp T.b_law_number .nil pass0 (pa_cons (pv 0) pa_nil))))), ?_⟩
  dsimp only [cxOf, Cx.nox, Cx.wish, L2.start, List.map, List.length, List.replicate, List.append]
  walk_at "rd"
  intro kind H1 s1 d0 d1
  have hst := hst.mono s1
  clear d0 d1
  walk_at "rd"
  refine ite2 (fun e => ?_) (fun e => ?_)
  · walk_at "rd"
    intro d H2 s2 d0 d1
    walk_at "rd"
    exact k _ H2 (s1.trans s2) (by have e := p30; show (-1000000000000000000000000000000 : Int) ≤ _; omega) (by have e := p30; show _ ≤ (1000000000000000000000000000000 : Int); omega)
  walk_at "rd"
  exact fun n H2 s2 n1 n2 => k n H2 (s1.trans s2) n1 n2
end
end K13
namespace K13
open PySem PySem.Spec PyProof.Rows L2 TK
abbrev CC (K : PySem.W.Frag) : Addr := He.ga K "Change"
/-- an assignment: its field, whether it adds, its number -/
structure R3 where
  f : Str
  d : Bool
  n : Int
def R3.deed (r : R3) : Str := if r.d = true then "add" else "set"
def rowV (r : R3) : List V := [.str r.f, .str r.deed, .int r.n]
def rowD (r : R3) : TK.D := .tup [.str r.f, .str r.deed, .int r.n]
theorem deed_len (r : R3) : r.deed.length ≤ sizeLine := by
  unfold R3.deed
  split <;> exact Nat.le_of_ble_eq_true rfl
/-- at p a change of these assignments -/
def Chg (K : PySem.W.Frag) (H : Hp) (p : Addr) (rs : List R3) : Prop := ∃ dx t, H p = some (.ins (CC K) dx [("assignments", .ref t)]) ∧ Is H (.ref t) (.tup (rs.map rowD))
theorem Chg.keep {K : PySem.W.Frag} {H H' : Hp} {p : Addr} {rs : List R3} (h : Chg K H p rs) (s : Same H H') : Chg K H' p rs := let ⟨dx, t, h1, h2⟩ := h; ⟨dx, t, s _ _ h1, h2.mono s⟩
theorem row_is {H : Hp} {a : Addr} {r : R3} (h : Rd H a (.tup (rowV r))) (z : r.f.length ≤ sizeLine) : Is H (.ref a) (rowD r) := .tup h (Nat.le_of_ble_eq_true rfl) (.cons (.str _ z) (.cons (.str _ (deed_len r)) (.cons (.int _) .nil)))
theorem row_inv {H : Hp} {v : V} {r : R3} (h : Is H v (rowD r)) : ∃ a, v = .ref a ∧ Rd H a (.tup (rowV r)) ∧ r.f.length ≤ sizeLine := by
  cases h with
  | tup e z a =>
    refine ⟨_, rfl, ?_⟩
    cases a with
    | cons h1 a => cases h1 with
      | str _ z1 => cases a with
        | cons h2 a => cases h2 with
          | str _ _ => cases a with
            | cons h3 a => cases h3 with
              | int _ => cases a with
                | nil => exact ⟨e, z1⟩
/-- what stands in a row of them -/
theorem rows_at {H : Hp} {vs : List V} {rs : List R3} (a : AllI (Is H) vs (rs.map rowD)) {i : Nat} {v : V} (e : vs[i]? = some v) : ∃ r p, rs[i]? = some r ∧ v = .ref p ∧ Rd H p (.tup (rowV r)) ∧ r.f.length ≤ sizeLine := by
  obtain ⟨d, hd, h⟩ := a.get e
  rw [List.getElem?_map] at hd
  obtain ⟨r, e1, rfl⟩ := Option.map_eq_some_iff.mp hd
  obtain ⟨p, h1, h2, h3⟩ := row_inv h
  exact ⟨r, p, e1, h1, h2, h3⟩
/-- rows, place by place -/
def RowAt (H : Hp) (v : V) (r : R3) : Prop := ∃ a, v = .ref a ∧ Rd H a (.tup (rowV r)) ∧ r.f.length ≤ sizeLine
theorem RowAt.put {H : Hp} {v : V} {r : R3} {D : Addr} {xs : List V} {o : HO} (h : RowAt H v r) (hD : H D = some (.lst xs)) : RowAt (upd H D o) v r := by
  obtain ⟨a, h1, h2, h3⟩ := h
  refine ⟨a, h1, ?_, h3⟩
  rcases h2 with h2 | ⟨q, h2⟩
  · exact .inl (by rw [upd_ne (fun z => by rw [z, hD] at h2; cases h2)]; exact h2)
  · exact .inr ⟨q, by rw [upd_ne (fun z => by rw [z, hD] at h2; cases h2)]; exact h2⟩
theorem RowAt.keep {H H' : Hp} {v : V} {r : R3} (h : RowAt H v r) (s : Same H H') : RowAt H' v r := let ⟨a, h1, h2, h3⟩ := h; ⟨a, h1, rd_same s h2, h3⟩
def Rows (H : Hp) : List V → List R3 → Prop
  | [], [] => True
  | v :: vs, r :: rs => RowAt H v r ∧ Rows H vs rs
  | _, _ => False
theorem Rows.imp {H H' : Hp} (f : ∀ v r, RowAt H v r → RowAt H' v r) : ∀ {vs : List V} {rs : List R3}, Rows H vs rs → Rows H' vs rs
  | [], [], _ => trivial
  | _ :: _, _ :: _, h => ⟨f _ _ h.1, Rows.imp f h.2⟩
  | [], _ :: _, h => h.elim
  | _ :: _, [], h => h.elim
theorem Rows.len {H : Hp} : ∀ {vs : List V} {rs : List R3}, Rows H vs rs → vs.length = rs.length
  | [], [], _ => rfl
  | _ :: _, _ :: _, h => by rw [List.length_cons, List.length_cons, Rows.len h.2]
  | [], _ :: _, h => h.elim
  | _ :: _, [], h => h.elim
theorem Rows.snoc {H : Hp} {v : V} {r : R3} (h : RowAt H v r) : ∀ {vs : List V} {rs : List R3}, Rows H vs rs → Rows H (vs ++ [v]) (rs ++ [r])
  | [], [], _ => ⟨h, trivial⟩
  | _ :: _, _ :: _, q => ⟨q.1, Rows.snoc h q.2⟩
  | [], _ :: _, q => q.elim
  | _ :: _, [], q => q.elim
theorem Rows.app {H : Hp} {us : List V} {ss : List R3} (h : Rows H us ss) : ∀ {vs : List V} {rs : List R3}, Rows H vs rs → Rows H (vs ++ us) (rs ++ ss)
  | [], [], _ => h
  | _ :: _, _ :: _, q => ⟨q.1, Rows.app h q.2⟩
  | [], _ :: _, q => q.elim
  | _ :: _, [], q => q.elim
theorem Rows.is {H : Hp} : ∀ {vs : List V} {rs : List R3}, Rows H vs rs → AllI (Is H) vs (rs.map rowD)
  | [], [], _ => .nil
  | _ :: _, _ :: _, h => .cons (by obtain ⟨a, rfl, h2, h3⟩ := h.1; exact row_is h2 h3) (Rows.is h.2)
  | [], _ :: _, h => h.elim
  | _ :: _, [], h => h.elim
theorem Rows.of {H : Hp} : ∀ {vs : List V} {rs : List R3}, AllI (Is H) vs (rs.map rowD) → Rows H vs rs
  | [], [], _ => trivial
  | _ :: _, _ :: _, .cons h t => ⟨row_inv h, Rows.of t⟩
theorem Rows.at {H : Hp} : ∀ {vs : List V} {rs : List R3} {i : Nat} {v : V}, Rows H vs rs → vs[i]? = some v → ∃ r, rs[i]? = some r ∧ RowAt H v r
  | [], [], i, v, _, e => by simp at e
  | u :: vs, r :: rs, 0, v, h, e => by
    have e : u = v := by simpa using e
    exact ⟨r, rfl, e ▸ h.1⟩
  | u :: vs, r :: rs, i + 1, v, h, e => Rows.at h.2 (i := i) (by simpa using e)
  | [], _ :: _, _, _, h, _ => h.elim
  | _ :: _, [], _, _, h, _ => h.elim
/-- a tuple of rows -/
theorem tup_inv {H : Hp} {t : Addr} {rs : List R3} (h : Is H (.ref t) (.tup (rs.map rowD))) : ∃ vs, Rd H t (.tup vs) ∧ vs.length ≤ sizeLine ∧ Rows H vs rs := by
  cases h with
  | tup e z a => exact ⟨_, e, z, .of a⟩
def sp_init (K : PySem.W.Frag) : Sp := fun vs H Q _ => ∃ (x dx l : Addr) (rs : List R3), vs = [.ref x, .ref l] ∧ Is H (.ref l) (.lst (rs.map rowD)) ∧ H x = some (.ins (CC K) dx []) ∧ rs.length ≤ 100 ∧
  ∀ H', (∀ b o, b ≠ x → H b = some o → H' b = some o) → Chg K H' x rs → Q .non H'
def sp_none (K : PySem.W.Frag) : Sp := fun vs H Q _ => vs = [] ∧ ∀ o H', Same H H' → H o = none → Chg K H' o [] → Q (.ref o) H'
def sp_one (K : PySem.W.Frag) (d : Bool) : Sp := fun vs H Q _ => ∃ (f : Str) (n : Int), vs = [.str f, .int n] ∧ isName f = true ∧ f.length ≤ sizeLine ∧ -B30 ≤ n ∧ n ≤ B30 ∧ ∀ o H', Same H H' → H o = none → Chg K H' o [⟨f, d, n⟩] → Q (.ref o) H'
theorem rd_up {H H' : Hp} (up : ∀ b o, H b = some o → (∀ C dx fs, o ≠ .ins C dx fs) → H' b = some o) {a : Addr} {u : HO} (nu : ∀ C dx fs, u ≠ .ins C dx fs) (h : Rd H a u) : Rd H' a u := by
  rcases h with h | ⟨o, h⟩
  · exact .inl (up _ _ h nu)
  · exact .inr ⟨o, up _ _ h fun _ _ _ z => by cases z⟩
mutual
/-- trees stay where only instances are written -/
theorem is_up {H H' : Hp} (up : ∀ b o, H b = some o → (∀ C dx fs, o ≠ .ins C dx fs) → H' b = some o) : ∀ {v : V} {d : TK.D}, Is H v d → Is H' v d
  | _, _, .non => .non
  | _, _, .bl b => .bl b
  | _, _, .int i => .int i
  | _, _, .str x h => .str x h
  | _, _, .lst e z a => .lst (up _ _ e fun _ _ _ z => by cases z) z (all_up up a)
  | _, _, .tup e z a => .tup (rd_up up (fun _ _ _ z => by cases z) e) z (all_up up a)
  | _, _, .dic e nd z f => .dic (up _ _ e fun _ _ _ z => by cases z) nd z f
theorem all_up {H H' : Hp} (up : ∀ b o, H b = some o → (∀ C dx fs, o ≠ .ins C dx fs) → H' b = some o) : ∀ {vs : List V} {ds : List TK.D}, AllI (Is H) vs ds → AllI (Is H') vs ds
  | _, _, .nil => .nil
  | _, _, .cons h t => .cons (is_up up h) (all_up up t)
end
theorem up_of {H H' : Hp} {x : Addr} {C dx : Addr} {fs : List (Str × V)} (hx : H x = some (.ins C dx fs)) (s : ∀ b o, b ≠ x → H b = some o → H' b = some o) : ∀ b o, H b = some o → (∀ C dx fs, o ≠ .ins C dx fs) → H' b = some o := fun b o e n => s b o (fun q => by
  rw [q, hx] at e
  exact n _ _ _ (Option.some.inj e).symm) e
theorem make_chg {K : PySem.W.Frag} {H H1 : Hp} {l : Addr} {rs : List R3} {R : Addr → Hp → Prop} {E : XK} (s : Same H H1) (hl : Is H1 (.ref l) (.lst (rs.map rowD))) (few : rs.length ≤ 100) (k : ∀ o H', Same H H' → H o = none → Chg K H' o rs → R o H') :
    ∀ x dx, H1 x = none → H1 dx = none → dx ≠ x → sp_init K (.ref x :: ([.ref l] ++ [])) (upd (upd H1 dx (.own x)) x (.ins (CC K) dx [])) (fun v H2 => v = .non ∧ R x H2) E := by
  intro x dx nx nd ne
  have s1 : Same H1 (upd (upd H1 dx (.own x)) x (.ins (CC K) dx [])) := fun b o e => by
    rw [upd_ne (ne_of_none e nx), upd_ne (ne_of_none e nd)]
    exact e
  refine ⟨x, dx, l, rs, rfl, hl.mono s1, upd_same, few, fun H' s2 c => ⟨rfl, k x H' (fun b o e => s2 b o (ne_of_none (s b o e) nx) (s1 b o (s b o e))) ?_ c⟩⟩
  cases q : H x with
  | none => rfl
  | some o =>
    have := s x o q
    rw [nx] at this
    cases this
section
variable {P : Program} {w : World} {K : PySem.W.Frag} {mg : Str → Option Value} {base : Heap}
theorem ok_init (T : Tx K mg) : FnOk P w K mg base CX0 1 (He.fAd K at_ChangeU_initU) (fdOf K at_ChangeU_initU) ["self", "rows"] (sp_init K) := by
  refine T.F_ChangeU_initU.ok sc_ChangeU_initU (fun vs H Q E h => ?_) (fun cdv A outer s H vs Q E hr h => ?_)
  · obtain ⟨_, _, _, _, rfl, _⟩ := h
    rfl
  obtain ⟨x, dx, l, rs, rfl, hl, hx, few, k⟩ := h
  refine ⟨_, PSs.nox (pss_one (ps_fld (pv 0) (pe_callTy call_tuple_of (by rfl) T.z_tuple (by decide +kernel) (pa_cons (pv 1) pa_nil)) (by rfl))), ?_⟩
  have cl := T.cl_Change
  have nn := T.n_Change_assignments
  dsimp only [cxOf, Cx.nox, Cx.wish, L2.start, List.map, List.length, List.replicate, List.append]
  cases hl with
  | @lst _ vs _ e z a =>
    walk_at "rd"
    refine ⟨l, _, rfl, .inl ⟨SqL.of e, fun t nt => ?_⟩⟩
    walk_at "rd"
    have nx : x ≠ t := ne_of_none hx nt
    refine ⟨x, CC K, dx, [], rfl, by rw [upd_ne nx]; exact hx, cl, nn, by decide, ?_⟩
    have s1 : ∀ b o, b ≠ x → H b = some o → upd (upd H t (.tup vs)) x (.ins (CC K) dx [("assignments", .ref t)]) b = some o := fun b o nb e => by rw [upd_ne nb, upd_ne (ne_of_none e nt)]; exact e
    exact k _ s1 ⟨dx, t, upd_same, .tup (.inl (by rw [upd_ne (Ne.symm nx)]; exact upd_same)) z (all_up (up_of hx s1) a)⟩
theorem ok_none (T : Tx K mg) : FnOk P w K mg base CX0 3 (at_Change_none K) (fdA K (at_Change_none K)) [] (sp_none K) := by
  have G_ChangeU_initU := ok_init (P := P) (w := w) (base := base) T
  refine T.F_Change_none.ok sc_Change_none (fun vs H Q E h => ?_) (fun cdv A outer s H vs Q E hr h => ?_)
  · obtain ⟨rfl, _⟩ := h
    rfl
  obtain ⟨rfl, k⟩ := h
  refine ⟨_, PSs.nox (pss_one (ps_ret (pe_make T.mk_Change G_ChangeU_initU (hr.mono (by first | decide | omega)) (by rfl) T.m_Change T.b_ChangeU_initU .nil pass0 (pa_cons (pe_lst pa_nil) pa_nil)))), ?_⟩
  dsimp only [cxOf, Cx.nox, Cx.wish, L2.start, List.map, List.length, List.replicate, List.append]
  walk_at "rd"
  intro q nq
  exact make_chg (rs := []) (same_new nq) (.lst upd_same (Nat.zero_le _) .nil) (by decide) k
theorem ok_adding (T : Tx K mg) : FnOk P w K mg base CX0 4 (at_Change_adding K) (fdA K (at_Change_adding K)) ["field", "number"] (sp_one K true) := by
  have G_ChangeU_initU := ok_init (P := P) (w := w) (base := base) T
  have G_check_name := ok_check_name (P := P) (w := w) (base := base) T
  have G_check_number := ok_check_number (P := P) (w := w) (base := base) T
  refine T.F_Change_adding.ok sc_Change_adding (fun vs H Q E h => ?_) (fun cdv A outer s H vs Q E hr h => ?_)
  · obtain ⟨_, _, rfl, _⟩ := h
    rfl
  obtain ⟨f, n, rfl, nf, lf, n1, n2, k⟩ := h
  refine ⟨_, PSs.nox (pss_cons (ps_expr (pe_call G_check_name (hr.mono (by first | decide | omega)) (by rfl) T.m_check_name T.F_check_name.kp T.b_check_name .nil pass0 (pa_cons (pv 0) pa_nil)))
    (pss_cons (ps_expr (pe_call G_check_number (hr.mono (by first | decide | omega)) (by rfl) T.m_check_number T.F_check_number.kp T.b_check_number .nil pass0 (pa_cons (pv 1) pa_nil)))
    (pss_one (ps_ret (pe_make T.mk_Change G_ChangeU_initU (hr.mono (by first | decide | omega)) (by rfl) T.m_Change T.b_ChangeU_initU .nil pass0 (pa_cons (pe_lst (pa_cons (pe_tup (pa_cons (pv 0) (pa_cons pe_str (pa_cons (pv 1) pa_nil)))) pa_nil)) pa_nil)))))), ?_⟩
  dsimp only [cxOf, Cx.nox, Cx.wish, L2.start, List.map, List.length, List.replicate, List.append]
  walk_at "rd"
  intro a na
  walk_at "rd"
  intro q nq
  exact make_chg (rs := [⟨f, true, n⟩]) ((same_new na).trans (same_new nq)) (.lst upd_same (Nat.le_of_ble_eq_true rfl) (.cons (row_is (r := ⟨f, true, n⟩) (.inl (by rw [upd_ne (ne_of_none upd_same nq)]; exact upd_same)) lf) .nil)) (Nat.le_of_ble_eq_true rfl) k
theorem ok_setting (T : Tx K mg) : FnOk P w K mg base CX0 4 (at_Change_setting K) (fdA K (at_Change_setting K)) ["field", "number"] (sp_one K false) := by
  have G_ChangeU_initU := ok_init (P := P) (w := w) (base := base) T
  have G_check_name := ok_check_name (P := P) (w := w) (base := base) T
  have G_check_number := ok_check_number (P := P) (w := w) (base := base) T
  refine T.F_Change_setting.ok sc_Change_setting (fun vs H Q E h => ?_) (fun cdv A outer s H vs Q E hr h => ?_)
  · obtain ⟨_, _, rfl, _⟩ := h
    rfl
  obtain ⟨f, n, rfl, nf, lf, n1, n2, k⟩ := h
  refine ⟨_, PSs.nox (pss_cons (ps_expr (pe_call G_check_name (hr.mono (by first | decide | omega)) (by rfl) T.m_check_name T.F_check_name.kp T.b_check_name .nil pass0 (pa_cons (pv 0) pa_nil)))
    (pss_cons (ps_expr (pe_call G_check_number (hr.mono (by first | decide | omega)) (by rfl) T.m_check_number T.F_check_number.kp T.b_check_number .nil pass0 (pa_cons (pv 1) pa_nil)))
    (pss_one (ps_ret (pe_make T.mk_Change G_ChangeU_initU (hr.mono (by first | decide | omega)) (by rfl) T.m_Change T.b_ChangeU_initU .nil pass0 (pa_cons (pe_lst (pa_cons (pe_tup (pa_cons (pv 0) (pa_cons pe_str (pa_cons (pv 1) pa_nil)))) pa_nil)) pa_nil)))))), ?_⟩
  dsimp only [cxOf, Cx.nox, Cx.wish, L2.start, List.map, List.length, List.replicate, List.append]
  walk_at "rd"
  intro a na
  walk_at "rd"
  intro q nq
  exact make_chg (rs := [⟨f, false, n⟩]) ((same_new na).trans (same_new nq)) (.lst upd_same (Nat.le_of_ble_eq_true rfl) (.cons (row_is (r := ⟨f, false, n⟩) (.inl (by rw [upd_ne (ne_of_none upd_same nq)]; exact upd_same)) lf) .nil)) (Nat.le_of_ble_eq_true rfl) k
/-- repeated -/
def repR (rs : List R3) (n : Int) : List R3 := if n = 0 then [] else rs.map fun r => if r.d = true then ⟨r.f, true, r.n * n⟩ else r
def sp_rep (K : PySem.W.Frag) : Sp := fun vs H Q E => ∃ (t : Addr) (n : Int) (rs : List R3), vs = [.ref t, .int n] ∧ Is H (.ref t) (.tup (rs.map rowD)) ∧ rs.length ≤ 100 ∧
  (n < 0 ∨ 1000 < n → ∀ d H', Same H H' → H' d = some (.xd [("value", .int n)]) → E (.ref (He.ga K "BadNumber")) (some d) H') ∧
  (0 ≤ n → n ≤ 1000 → ∀ q H', Same H H' → H q = none → Is H' (.ref q) (.lst ((repR rs n).map rowD)) → Q (.ref q) H')
theorem ok_repeated (T : Tx K mg) : FnOk PP w K mg base (L2.CX PP w) 3 (He.fAd K at_repeated) (fdOf K at_repeated) ["rows", "times"] (sp_rep K) := by
  refine T.F_repeated.ok sc_repeated (fun vs H Q E h => ?_) (fun cdv A outer s H vs Q E hr h => ?_)
  · obtain ⟨_, _, _, rfl, _⟩ := h
    rfl
  obtain ⟨t, n, rs, rfl, ht, few, kE, k⟩ := h
  obtain ⟨vs, et, zt, rt⟩ := tup_inv ht
  have lv := rt.len
  refine ⟨_, (pss_cons (ps_if (PW.pt (pw_or (pt_cmpR op_ltA (pv 1) pe_int (nomark _)) (pw_or1 (pt_cmpR op_gt (pv 1) (pe_globE (by rfl) T.g_MOST_TIMES) (nomark _)))))
     (pss_one (ps_raise rfl (takes_of rfl rfl rfl rfl) (pmk_flds T.o_BadNumber.v T.o_BadNumber.i T.o_BadNumber.t T.o_BadNumber.n T.I_BadNumber (hr.mono (by first | decide | omega)) T.B_BadNumber pass0 (by rfl) T.m_BadNumber (pa_cons (pv 1) pa_nil))))
     pss_nil)
    (pss_cons (ps_if (pt_cmpR op_eqA (pv 1) pe_int (nomark _))
     (pss_one (ps_ret (pe_lst pa_nil)))
     pss_nil)
    (pss_one (ps_ret (pe_lc (own := [("field", 2), ("deed", 3), ("number", 4)]) rfl sc_repeated.nd (pi_tup (pv 0)) (blkOk_by (N := ["rows", "times", "field", "deed", "number"]) (sc := defScope s_repeated) (by decide +kernel)) (fun _ _ _ _ _ => (pg_tupK (K := K) (n := 3) (by rfl) (pgs_cons (pg_name (i := 2) sc_repeated.nd rfl (by first | exact .inl rfl | exact .inr rfl)) (pgs_cons (pg_name (i := 3) sc_repeated.nd rfl (by first | exact .inl rfl | exact .inr rfl)) (pgs_cons (pg_name (i := 4) sc_repeated.nd rfl (by first | exact .inl rfl | exact .inr rfl)) pgs_nil))))) (fun _ _ _ _ _ => pts_nil) (fun _ _ _ _ _ => (pe_tup (pa_cons (pv 2) (pa_cons (pv 3) (pa_cons (pe_ifExp (pt_cmpR op_eqA (pv 3) pe_str (nomark _)) (pe_op op_mulA (pv 4) (pv 1)) (pv 4)) pa_nil)))))))))), ?_⟩
  dsimp only [cxOf, Cx.nox, Cx.wish, L2.start, List.map, List.length, List.replicate, List.append]
  walk_at "rd"
  refine ite2 (fun e => ?_) (fun e => ?_)
  · walk_at "rd"
    intro d nd
    exact kE (.inl (of_decide_eq_true e)) d _ (same_new nd) upd_same
  · have e : ¬ n < 0 := fun z => e (decide_eq_true z)
    walk_at "rd"
    refine ite2 (fun e2 => ?_) (fun e2 => ?_)
    · walk_at "rd"
      intro d nd
      exact kE (.inr (of_decide_eq_true e2)) d _ (same_new nd) upd_same
    · have e2 : ¬ 1000 < n := fun z => e2 (decide_eq_true z)
      walk_at "rd"
      refine ite2 (fun e3 => ?_) (fun e3 => ?_)
      · walk_at "rd"
        intro q nq
        have e3 : n = 0 := by simpa using e3
        refine k (by omega) (by omega) q _ (same_new nq) nq ?_
        rw [repR, if_pos e3]
        exact .lst upd_same (Nat.zero_le _) .nil
      · have e3 : n ≠ 0 := by simpa using e3
        walk_at "rd"
        refine ⟨⟨vs, .inl et⟩, fun D nD => ?_⟩
        refine lc_tup (xs := vs) (fun i H' => Here (Same H H' ∧ ∃ us, H' D = some (.lst us) ∧ Rows H' us (repR (rs.take i) n))) (.mk ⟨same_new nD, [], upd_same, by rw [repR, if_neg e3]; trivial⟩) (fun i H' hi y => ?_) (fun i x H' e y => ?_) (fun H' y => ?_)
        · obtain ⟨s1, _⟩ := y.out
          exact sqT_same s1 (.inl et)
        · obtain ⟨s1, us, hD, ru⟩ := y.out
          obtain ⟨r, e1, a, rfl, ha, hz⟩ := rt.at e
          have ha1 : SqT K H' a (rowV r) := .inl (rd_same s1 ha)
          have hi := (List.getElem?_eq_some_iff.mp e1).1
          refine ⟨a, _, rfl, ha1, rfl, _, _, rfl, _, _, rfl, _, _, rfl, rfl, ?_⟩
          have lu : us.length < sizeLine := by
            have := ru.len
            rw [repR, if_neg e3, List.length_map, List.length_take] at this
            rw [sizeLine_eq]
            omega
          have es : repR (rs.take (i + 1)) n = repR (rs.take i) n ++ [if r.d = true then ⟨r.f, true, r.n * n⟩ else r] := by
            rw [repR, repR, if_neg e3, if_neg e3, List.take_succ, e1, List.map_append]
            rfl
          have fin : ∀ (q : Addr) (r' : R3), H' q = none → r'.f = r.f → es = es → repR (rs.take (i + 1)) n = repR (rs.take i) n ++ [r'] → ∃ us', upd H' q (.tup (rowV r')) D = some (.lst us') ∧ us'.length < sizeLine ∧
              Here (Same H (upd (upd H' q (.tup (rowV r'))) D (.lst (us' ++ [.ref q]))) ∧ ∃ us, upd (upd H' q (.tup (rowV r'))) D (.lst (us' ++ [.ref q])) D = some (.lst us) ∧ Rows (upd (upd H' q (.tup (rowV r'))) D (.lst (us' ++ [.ref q]))) us (repR (rs.take (i + 1)) n)) := fun q r' nq hf _ he => by
            have s2 := same_new (o := .tup (rowV r')) nq
            have hD2 := s2 _ _ hD
            refine ⟨us, hD2, lu, .mk ⟨fun b o z => by rw [upd_ne (ne_of_none z nD)]; exact s2 _ _ (s1 _ _ z), _, upd_same, ?_⟩⟩
            rw [he]
            exact Rows.snoc (RowAt.put ⟨q, rfl, .inl upd_same, hf ▸ hz⟩ hD2) (Rows.imp (fun v r h => (h.keep s2).put hD2) ru)
          walk_at "rd"
          have hdec : decide (V.str r.deed = V.str "add") = r.d := by
            unfold R3.deed
            cases r.d <;> decide +kernel
          rw [hdec]
          cases hrd : r.d with
          | true =>
            have hde : r.deed = "add" := by rw [R3.deed, hrd]; rfl
            rw [hrd, if_pos rfl] at es
            walk_at "rd"
            refine ⟨.inr ⟨by omega, by omega⟩, ?_⟩
            walk_at "rd"
            intro q nq
            have g := fin q ⟨r.f, true, r.n * n⟩ nq rfl rfl es
            rw [hde]
            exact g
          | false =>
            rw [hrd, if_neg (by decide)] at es
            walk_at "rd"
            intro q nq
            exact fin q r nq rfl rfl es
        · obtain ⟨s1, us, hD, ru⟩ := y.out
          rw [lv, List.take_length] at ru
          refine k (by omega) (by omega) D H' s1 nD (.lst hD ?_ ru.is)
          have := ru.len
          rw [repR, if_neg e3, List.length_map] at this
          rw [sizeLine_eq]
          omega
/-- made so many times -/
def sp_mul (K : PySem.W.Frag) : Sp := fun vs H Q E => ∃ (p : Addr) (n : Int) (rs : List R3), vs = [.ref p, .int n] ∧ Chg K H p rs ∧ rs.length ≤ 100 ∧
  (n < 0 ∨ 1000 < n → ∀ d H', Same H H' → H' d = some (.xd [("value", .int n)]) → E (.ref (He.ga K "BadNumber")) (some d) H') ∧
  (0 ≤ n → n ≤ 1000 → ∀ o H', Same H H' → H o = none → Chg K H' o (repR rs n) → Q (.ref o) H')
theorem rep_len (rs : List R3) (n : Int) : (repR rs n).length ≤ rs.length := by
  unfold repR
  split
  · exact Nat.zero_le _
  · rw [List.length_map]
    exact Nat.le_refl _
theorem ok_mul (T : Tx K mg) : FnOk PP w K mg base (L2.CX PP w) 5 (He.fAd K at_ChangeU_mulU) (fdOf K at_ChangeU_mulU) ["self", "times"] (sp_mul K) := by
  have G_ChangeU_initU := ok_init (P := PP) (w := w) (base := base) T
  have G_repeated := ok_repeated (w := w) (base := base) T
  refine T.F_ChangeU_mulU.ok sc_ChangeU_mulU (fun vs H Q E h => ?_) (fun cdv A outer s H vs Q E hr h => ?_)
  · obtain ⟨_, _, _, rfl, _⟩ := h
    rfl
  obtain ⟨p, n, rs, rfl, ⟨dx, t, hp, ht⟩, few, kE, k⟩ := h
  refine ⟨_, (pss_one (ps_ret (pe_make T.mk_Change G_ChangeU_initU (hr.mono (by first | decide | omega)) (by rfl) T.m_Change T.b_ChangeU_initU .nil pass0 (pa_cons (pe_call G_repeated (hr.mono (by first | decide | omega)) (by rfl) T.m_repeated T.F_repeated.kp T.b_repeated .nil (passes_call (takes_of rfl rfl rfl rfl) fun _ _ _ _ h => h) (pa_cons (pe_fld (pv 0) (by rfl)) (pa_cons (pv 1) pa_nil))) pa_nil)))), ?_⟩
  have cl := T.cl_Change
  have nn := T.n_Change_assignments
  dsimp only [cxOf, Cx.nox, Cx.wish, L2.start, List.map, List.length, List.replicate, List.append]
  walk_at "rd"
  refine ⟨p, CC K, dx, _, .ref t, rfl, hp, cl, nn, rfl, ?_⟩
  walk_at "rd"
  refine ⟨t, n, rs, rfl, ht, few, kE, fun n0 n1 q H1 s1 nq hq => ?_⟩
  refine make_chg (H := H) s1 hq (Nat.le_trans (rep_len rs n) few) (fun o H' s2 no c => k n0 n1 o H' s2 no c)
theorem ok_rmul (T : Tx K mg) : FnOk PP w K mg base (L2.CX PP w) 5 (He.fAd K at_ChangeU_rmulU) (fdOf K at_ChangeU_rmulU) ["self", "times"] (sp_mul K) := by
  have G_ChangeU_initU := ok_init (P := PP) (w := w) (base := base) T
  have G_repeated := ok_repeated (w := w) (base := base) T
  refine T.F_ChangeU_rmulU.ok sc_ChangeU_rmulU (fun vs H Q E h => ?_) (fun cdv A outer s H vs Q E hr h => ?_)
  · obtain ⟨_, _, _, rfl, _⟩ := h
    rfl
  obtain ⟨p, n, rs, rfl, ⟨dx, t, hp, ht⟩, few, kE, k⟩ := h
  refine ⟨_, (pss_one (ps_ret (pe_make T.mk_Change G_ChangeU_initU (hr.mono (by first | decide | omega)) (by rfl) T.m_Change T.b_ChangeU_initU .nil pass0 (pa_cons (pe_call G_repeated (hr.mono (by first | decide | omega)) (by rfl) T.m_repeated T.F_repeated.kp T.b_repeated .nil (passes_call (takes_of rfl rfl rfl rfl) fun _ _ _ _ h => h) (pa_cons (pe_fld (pv 0) (by rfl)) (pa_cons (pv 1) pa_nil))) pa_nil)))), ?_⟩
  have cl := T.cl_Change
  have nn := T.n_Change_assignments
  dsimp only [cxOf, Cx.nox, Cx.wish, L2.start, List.map, List.length, List.replicate, List.append]
  walk_at "rd"
  refine ⟨p, CC K, dx, _, .ref t, rfl, hp, cl, nn, rfl, ?_⟩
  walk_at "rd"
  refine ⟨t, n, rs, rfl, ht, few, kE, fun n0 n1 q H1 s1 nq hq => ?_⟩
  refine make_chg (H := H) s1 hq (Nat.le_trans (rep_len rs n) few) (fun o H' s2 no c => k n0 n1 o H' s2 no c)
/-- the assigned fields -/
def sp_assigned (K : PySem.W.Frag) : Sp := fun vs H Q _ => ∃ (p : Addr) (rs : List R3), vs = [.ref p] ∧ Chg K H p rs ∧ rs.length ≤ 100 ∧ ∀ q H', Same H H' → H' q = some (.tup (rs.map fun r => V.str r.f)) → Q (.ref q) H'
theorem ok_assigned (T : Tx K mg) : FnOk P w K mg base CX0 1 (at_Change_assigned K) (fdA K (at_Change_assigned K)) ["self"] (sp_assigned K) := by
  refine T.F_Change_assigned.ok sc_Change_assigned (fun vs H Q E h => ?_) (fun cdv A outer s H vs Q E hr h => ?_)
  · obtain ⟨_, _, rfl, _⟩ := h
    rfl
  obtain ⟨p, rs, rfl, ⟨dx, t, hp, ht⟩, few, k⟩ := h
  obtain ⟨vs, et, zt, rt⟩ := tup_inv ht
  have lv := rt.len
  refine ⟨_, PSs.nox (pss_one (ps_ret (pe_callTy call_tuple_of (by rfl) T.z_tuple (by decide +kernel) (pa_cons (pe_lc (own := [("row", 1)]) rfl sc_Change_assigned.nd (pi_tup (pe_fld (pv 0) (by rfl))) (blkOk_by (N := ["self", "row"]) (sc := defScope s_Change_assigned) (by decide +kernel)) (fun _ _ _ _ _ => (pg_name (i := 1) sc_Change_assigned.nd rfl (by first | exact .inl rfl | exact .inr rfl))) (fun _ _ _ _ _ => pts_nil) (fun _ _ _ _ _ => (pe_ix (ix_K (K := K)) (pv 1) pe_int (fun _ _ => rfl)))) pa_nil)))), ?_⟩
  have cl := T.cl_Change
  have nn := T.n_Change_assignments
  dsimp only [cxOf, Cx.nox, Cx.wish, L2.start, List.map, List.length, List.replicate, List.append]
  walk_at "rd"
  refine ⟨p, CC K, dx, _, .ref t, rfl, hp, cl, nn, rfl, t, rfl, ⟨vs, .inl et⟩, fun D nD => ?_⟩
  refine lc_tup (xs := vs) (fun i H' => Here (Same H H' ∧ H' D = some (.lst ((rs.take i).map fun r => V.str r.f)))) (.mk ⟨same_new nD, upd_same⟩) (fun i H' hi y => ?_) (fun i x H' e y => ?_) (fun H' y => ?_)
  · obtain ⟨s1, _⟩ := y.out
    exact sqT_same s1 (.inl et)
  · obtain ⟨s1, hD⟩ := y.out
    obtain ⟨r, e1, a, rfl, ha, hz⟩ := rt.at e
    have ha1 : SqT K H' a (rowV r) := .inl (rd_same s1 ha)
    have ix : atI (rowV r) 0 = some (.str r.f) := atI_nat (j := 0) rfl
    walk_at "rd"
    refine ⟨_, hD, ?_, .mk ⟨fun b o q => by rw [upd_ne (ne_of_none q nD)]; exact s1 _ _ q, by rw [upd_same, List.take_succ, e1, List.map_append]; rfl⟩⟩
    rw [List.length_map, List.length_take, sizeLine_eq]
    omega
  · obtain ⟨s1, hD⟩ := y.out
    rw [lv, List.take_length] at hD
    walk_at "rd"
    refine ⟨D, _, rfl, .inl ⟨SqL.of hD, fun q nq => ?_⟩⟩
    exact k q _ (s1.trans (same_new nq)) upd_same
end
end K13
namespace K13
open PySem PySem.Spec PyProof.Rows L2 TK
theorem strs_back : ∀ {ys : List V}, (∀ v ∈ ys, ∃ x : Str, v = .str x) → ∃ xs : List Str, ys = xs.map V.str
  | [], _ => ⟨[], rfl⟩
  | v :: ys, h => by
    obtain ⟨x, rfl⟩ := h v List.mem_cons_self
    obtain ⟨xs, rfl⟩ := strs_back (ys := ys) fun u m => h u (List.mem_cons_of_mem _ m)
    exact ⟨x :: xs, rfl⟩
/-- rows for these fields -/
structure Good (ns : List Str) (rs : List R3) : Prop where
  few : rs.length ≤ 3
  nd : (rs.map R3.f).Nodup
  inn : ∀ r ∈ rs, r.f ∈ ns
  lo : ∀ r ∈ rs, -B30 ≤ r.n
  hi : ∀ r ∈ rs, r.n ≤ B30
def sp_some (K : PySem.W.Frag) : Sp := fun vs H Q _ => ∃ (st fs : Addr) (ns : List Str), vs = [.ref st, .ref fs] ∧ StAt H st ∧ H fs = some (.lst (ns.map V.str)) ∧ ns.length = 4 ∧ ns.Nodup ∧ (∀ y ∈ ns, isName y = true) ∧
  ∀ (q : Addr) (us : List V) (rs : List R3) (H' : Hp), Same H H' → H q = none → H' q = some (.lst us) → Rows H' us rs → Good ns rs → Q (.ref q) H'
section
variable {P : Program} {w : World} {K : PySem.W.Frag} {mg : Str → Option Value} {base : Heap}
theorem ok_some (T : Tx K mg) : FnOk P w K mg base CX0 4 (He.fAd K at_law_some_rows) (fdOf K at_law_some_rows) ["state", "fields"] (sp_some K) := by
  have G_law_draw := ok_law_draw (P := P) (w := w) (base := base) T
  have G_law_pick := ok_law_pick (P := P) (w := w) (base := base) T
  have G_law_mixed := ok_law_mixed (P := P) (w := w) (base := base) T
  have G_law_constant := ok_constant (P := P) (w := w) (base := base) T
  refine T.F_law_some_rows.ok sc_law_some_rows (fun vs H Q E h => ?_) (fun cdv A outer s H vs Q E hr h => ?_)
  · obtain ⟨_, _, _, rfl, _⟩ := h
    rfl
  obtain ⟨st, fs, ns, rfl, hst, hS, l4, nd, vn, k⟩ := h
  refine ⟨_, PSs.nox (pss_cons (ps_set (i := 2) sc_law_some_rows.nd rfl (by first | exact .inl rfl | exact .inr rfl) (pe_lst pa_nil))
    (pss_cons (ps_for PassesOwn.never rfl (pi_list (pe_slice sl_A (pe_call G_law_mixed (hr.mono (by first | decide | omega)) (by rfl) T.m_law_mixed T.F_law_mixed.kp T.b_law_mixed .nil pass0 (pa_cons (pv 0) (pa_cons (pv 1) pa_nil))) po_none (po_some (pe_op op_sub pe_int (pe_call G_law_draw (hr.mono (by first | decide | omega)) (by rfl) T.m_law_draw T.F_law_draw.kp T.b_law_draw .nil pass0 (pa_cons (pv 0) (pa_cons pe_int pa_nil))))))) (pg_name (i := 3) sc_law_some_rows.nd rfl (by first | exact .inl rfl | exact .inr rfl))
     (pss_one (ps_expr (pe_bm PySem.F.plainAttrs_list PySem.F.slot_list_append PySem.F.type_list_append mt_append (pv 2) (pa_cons (pe_tup (pa_cons (pv 3) (pa_cons (pe_call G_law_pick (hr.mono (by first | decide | omega)) (by rfl) T.m_law_pick T.F_law_pick.kp T.b_law_pick .nil pass0 (pa_cons (pv 0) (pa_cons (pe_lst (pa_cons pe_str (pa_cons pe_str pa_nil))) pa_nil))) (pa_cons (pe_call G_law_constant (hr.mono (by first | decide | omega)) (by rfl) T.m_law_constant T.F_law_constant.kp T.b_law_constant .nil pass0 (pa_cons (pv 0) pa_nil)) pa_nil)))) pa_nil)))))
    (pss_one (ps_ret (pv 2))))), ?_⟩
  dsimp only [cxOf, Cx.nox, Cx.wish, L2.start, List.map, List.length, List.replicate, List.append]
  walk_at "rd"
  intro p np
  obtain ⟨sq, sn, sz, hq1, hq2⟩ := id hst
  have nq1 := ne_of_none hq1 np
  have nq2 := ne_of_none hq2 np
  have hst := hst.mono (same_new (o := .lst []) np)
  have hS := same_new (o := .lst []) np _ _ hS
  have s0 := same_new (o := .lst []) np
  have hp : upd H p (.lst []) p = some (.lst []) := upd_same
  generalize upd H p (.lst []) = H0 at hst hS s0 hp ⊢
  walk_at "rd"
  refine ⟨st, fs, _, rfl, hst, SqL.of hS, by rw [List.length_map]; omega, fun mx ys H1 s1 nmx hmx pm => ?_⟩
  have hst := hst.mono s1
  obtain ⟨xs, rfl⟩ := strs_back (ys := ys) fun v hv => by
    obtain ⟨x, _, rfl⟩ := List.mem_map.mp (pm.mem_iff.mp hv)
    exact ⟨x, rfl⟩
  walk_at "rd"
  intro d H2 s2 d0 d1
  have hst := hst.mono s2
  have hmx := s2 _ _ hmx
  refine ⟨3, d, rfl, rfl, 3 - d, rfl, ?_⟩
  walk_at "rd"
  refine .inr (.inl ⟨mx, _, rfl, SqL.of hmx, fun rw0 nrw => ?_⟩)
  have hcut : cutV (xs.map V.str) none (some (3 - d)) = (xs.take (3 - d).toNat).map V.str := by rw [cutV_to (by omega), List.map_take]
  rw [hcut]
  have r1 : ∀ y ∈ xs.take (3 - d).toNat, y ∈ ns := fun y m => by
    have := pm.mem_iff.mp (List.mem_map.mpr ⟨y, List.mem_of_mem_take m, rfl⟩)
    obtain ⟨x, hx, e⟩ := List.mem_map.mp this
    exact V.str.inj e ▸ hx
  have r2 : (xs.take (3 - d).toNat).Nodup := by
    have n1 : (ns.map V.str).Nodup := List.pairwise_map.mpr (nd.imp fun h e => h (V.str.inj e))
    have n2 : (xs.map V.str).Nodup := pm.nodup_iff.mpr n1
    exact ((List.pairwise_map.mp n2).imp fun h e => h (congrArg V.str e)).sublist (List.take_sublist _ _)
  have r3 : (xs.take (3 - d).toNat).length ≤ 3 := by rw [List.length_take]; omega
  generalize xs.take (3 - d).toNat = row at r1 r2 r3 ⊢
  have s3 := same_new (o := .lst (row.map V.str)) nrw
  have hst := hst.mono s3
  have s4 := (s0.trans s1).trans (s2.trans s3)
  have hp := s2 _ _ (s1 _ _ hp)
  have nrp : rw0 ≠ p := Ne.symm (ne_of_none hp nrw)
  have hp := s3 _ _ hp
  have hrw : upd H2 rw0 (.lst (row.map V.str)) rw0 = some (.lst (row.map V.str)) := upd_same
  generalize upd H2 rw0 (.lst (row.map V.str)) = H5 at hst hrw s4 hp ⊢
  have hstp : ∀ H', (∀ b o, b ≠ p → H5 b = some o → H' b = some o) → StAt H' st := fun H' s => ⟨sq, sn, sz, s _ _ nq1 (s4 _ _ hq1), s _ _ nq2 (s4 _ _ hq2)⟩
  clear hmx hcut pm s2 s1 s3 s0 nrw nmx d0 d1
  walk_at "rd"
  refine for_list (xs := row.map V.str) (fun i σ H' => Here (∃ o us rs, σ = [some (.ref st), some (.ref fs), some (.ref p), o] ∧ (∀ b o, b ≠ p → H5 b = some o → H' b = some o) ∧ H' p = some (.lst us) ∧ Rows H' us rs ∧ rs.map R3.f = row.take i ∧ (∀ r ∈ rs, -B30 ≤ r.n) ∧ (∀ r ∈ rs, r.n ≤ B30)))
    (.mk ⟨none, [], [], rfl, fun _ _ _ e => e, hp, trivial, rfl, (fun _ m => by cases m), (fun _ m => by cases m)⟩) (fun i σ H' _ y => ?_) (fun i v σ H' e y => ?_) (fun σ H' y => ?_)
  · obtain ⟨o, us, rs, rfl, s5, hp, ru, e1, lo, hi⟩ := y.out
    exact SqL.of (s5 _ _ nrp hrw)
  · obtain ⟨o, us, rs, rfl, s5, hp, ru, e1, lo, hi⟩ := y.out
    have hst := hstp H' s5
    clear hstp
    rw [List.getElem?_map] at e
    obtain ⟨z, e2, rfl⟩ := Option.map_eq_some_iff.mp e
    have lz : z.length ≤ sizeLine := by
      have := isName_len (vn z (r1 z (List.mem_of_getElem? e2)))
      rw [sizeLine_eq]
      omega
    walk_at "rd"
    refine ⟨.inl ⟨rfl, _, SqL.of hp⟩, ?_⟩
    walk_at "rd"
    intro a na
    have s6 := same_new (o := .lst [.str "add", .str "set"]) na
    have hst := hst.mono s6
    walk_at "rd"
    intro v H7 s7 mv
    have hst := hst.mono s7
    walk_at "r1"
    refine ⟨st, rfl, hst, fun n H8 s8 n1 n2 => ?_⟩
    have hst := hst.mono s8
    refine ⟨Nat.le_of_ble_eq_true rfl, fun t nt => ?_⟩
    have hst := hst.mono (same_new (o := .tup [.str z, v, .int n]) nt)
    have sA := ((s6.trans s7).trans s8).trans (same_new (o := .tup [.str z, v, .int n]) nt)
    have hpA := sA _ _ hp
    have lu : us.length ≤ 3 := by
      have h1 := ru.len
      have h2 := congrArg List.length e1
      rw [List.length_map, List.length_take] at h2
      omega
    have hv : ∃ d : Bool, v = .str (if d = true then "add" else "set") := by
      rcases List.mem_cons.mp mv with h | h
      · exact ⟨true, h⟩
      · exact ⟨false, List.mem_singleton.mp h⟩
    obtain ⟨d, rfl⟩ := hv
    have np' : p ≠ t := ne_of_none (((s6.trans s7).trans s8) _ _ hp) nt
    refine ⟨p, _, _, rfl, rfl, hpA, by rw [sizeLine_eq]; omega, ?_⟩
    have ra : RowAt (upd H8 t (.tup [.str z, .str (if d = true then "add" else "set"), .int n])) (.ref t) ⟨z, d, n⟩ := ⟨t, rfl, .inl upd_same, lz⟩
    refine .mk ⟨_, us ++ [.ref t], rs ++ [⟨z, d, n⟩], rfl, fun b o nb e => ?_, upd_same, Rows.snoc (ra.put hpA) (Rows.imp (fun _ _ h => (h.keep sA).put hpA) ru), ?_, fun r m => ?_, fun r m => ?_⟩
    · rw [upd_ne nb]
      exact sA _ _ (s5 _ _ nb e)
    · rw [List.map_append, e1, List.take_succ, e2]
      rfl
    · rcases List.mem_append.mp m with m | m
      · exact lo r m
      · rw [List.mem_singleton.mp m]
        exact n1
    · rcases List.mem_append.mp m with m | m
      · exact hi r m
      · rw [List.mem_singleton.mp m]
        exact n2
  · obtain ⟨o, us, rs, rfl, s5, hp, ru, e1, lo, hi⟩ := y.out
    rw [List.length_map, List.take_length] at e1
    walk_at "rd"
    refine k p us rs H' (fun b o e => s5 _ _ (ne_of_none e np) (s4 _ _ e)) np hp ru ⟨?_, ?_, fun r m => ?_, lo, hi⟩
    · have := congrArg List.length e1
      rw [List.length_map] at this
      omega
    · rw [e1]
      exact r2
    · refine r1 _ ?_
      rw [← e1]
      exact List.mem_map.mpr ⟨r, m, rfl⟩
end
end K13
namespace K13
open PySem PySem.Spec PyProof.Rows L2 TK
def sp_chained : Sp := fun vs H Q _ => ∃ (t u : Addr) (rs : List R3) (r : R3), vs = [.ref t, .ref u] ∧ Is H (.ref t) (.tup (rs.map rowD)) ∧ Is H (.ref u) (.tup ([r].map rowD)) ∧ (∀ x ∈ rs, x.f ≠ r.f) ∧ rs.length ≤ 2 ∧
  ∀ q H', Same H H' → H q = none → Is H' (.ref q) (.lst ((rs ++ [r]).map rowD)) → Q (.ref q) H'
def sp_rsh (K : PySem.W.Frag) : Sp := fun vs H Q _ => ∃ (p o : Addr) (rs : List R3) (r : R3), vs = [.ref p, .ref o] ∧ Chg K H p rs ∧ Chg K H o [r] ∧ (∀ x ∈ rs, x.f ≠ r.f) ∧ rs.length ≤ 2 ∧ ∀ q H', Same H H' → H q = none → Chg K H' q (rs ++ [r]) → Q (.ref q) H'
theorem Rows.put {H : Hp} {D : Addr} {xs : List V} {o : HO} {vs : List V} {rs : List R3} (h : Rows H vs rs) (hD : H D = some (.lst xs)) : Rows (upd H D o) vs rs := Rows.imp (fun _ _ h => h.put hD) h
theorem Rows.keep {H H' : Hp} {vs : List V} {rs : List R3} (h : Rows H vs rs) (s : Same H H') : Rows H' vs rs := Rows.imp (fun _ _ h => h.keep s) h
section
variable {P : Program} {w : World} {K : PySem.W.Frag} {mg : Str → Option Value} {base : Heap}
theorem ok_chained (T : Tx K mg) : FnOk P w K mg base CX0 2 (He.fAd K at_chained) (fdOf K at_chained) ["first", "second"] sp_chained := by
  have G_joined_assignment : FnOk P w K mg base CX0 0 (He.fAd K at_joined_assignment) (fdOf K at_joined_assignment) ["before", "after"] (fun _ _ _ _ => False) := ok_never
  refine T.F_chained.ok sc_chained (fun vs H Q E h => ?_) (fun cdv A outer s H vs Q E hr h => ?_)
  · obtain ⟨_, _, _, _, rfl, _⟩ := h
    rfl
  obtain ⟨t, u, rs, r, rfl, ht, hu, ne, few, k⟩ := h
  obtain ⟨vs, et, zt, rt⟩ := tup_inv ht
  obtain ⟨us, eu, zu, ru⟩ := tup_inv hu
  have lv := rt.len
  obtain ⟨ub, rfl, ⟨b, rfl, hb, lb⟩⟩ : ∃ ub, us = [ub] ∧ RowAt H ub r := by
    match us, ru with
    | [ub], h => exact ⟨ub, rfl, h.1⟩
    | [], h => exact h.elim
    | _ :: _ :: _, h => exact h.2.elim
  refine ⟨_, PSs.nox (pss_cons (ps_set (i := 3) sc_chained.nd rfl (by first | exact .inl rfl | exact .inr rfl) (pe_dc (own := [("row", 2)]) rfl sc_chained.nd (pi_tup (pv 1)) (blkOk_by (N := ["first", "second", "row", "later", "known", "rows"]) (sc := defScope s_chained) (by decide +kernel)) (fun _ _ _ _ _ => (pg_name (i := 2) sc_chained.nd rfl (by first | exact .inl rfl | exact .inr rfl))) (fun _ _ _ _ _ => pts_nil) (fun _ _ _ _ _ => (pe_ix (ix_K (K := K)) (pv 2) pe_int (fun _ _ => rfl))) (fun _ _ _ _ _ => (pv 2))))
    (pss_cons (ps_set (i := 4) sc_chained.nd rfl (by first | exact .inl rfl | exact .inr rfl) (pe_lc (own := [("row", 2)]) rfl sc_chained.nd (pi_tup (pv 0)) (blkOk_by (N := ["first", "second", "row", "later", "known", "rows"]) (sc := defScope s_chained) (by decide +kernel)) (fun _ _ _ _ _ => (pg_name (i := 2) sc_chained.nd rfl (by first | exact .inl rfl | exact .inr rfl))) (fun _ _ _ _ _ => pts_nil) (fun _ _ _ _ _ => (pe_ix (ix_K (K := K)) (pv 2) pe_int (fun _ _ => rfl)))))
    (pss_cons (ps_setLc (i := 5) (own := [("row", 2)]) rfl sc_chained.nd rfl rfl (sw_true rfl rfl rfl (by decide +kernel)) (pi_tup (pv 0)) (blkOk_by (N := ["first", "second", "row", "later", "known", "rows"]) (sc := defScope s_chained) (by decide +kernel)) (fun _ _ _ _ _ => (pg_name (i := 2) sc_chained.nd rfl (by first | exact .inl rfl | exact .inr rfl))) (fun _ _ _ _ _ => pts_nil) (fun _ _ _ _ _ => (pe_ifExp (pt_cmp (pc_din (hu_of hr) (pe_ix (ix_K (K := K)) (pv 2) pe_int (fun _ _ => rfl)) (pv 3))) (pe_call G_joined_assignment (hr.mono (by first | decide | omega)) (by rfl) T.m_joined_assignment T.F_joined_assignment.kp T.b_joined_assignment .nil pass0 (pa_cons (pv 2) (pa_cons (pe_dget (hu_of hr) (pv 3) (pe_ix (ix_K (K := K)) (pv 2) pe_int (fun _ _ => rfl)) (fun _ _ => rfl)) pa_nil))) (pv 2))))
    (pss_cons (ps_set (i := 5) sc_chained.nd rfl (by first | exact .inl rfl | exact .inr rfl) (pe_op op_addA (pv 5) (pe_lc (own := [("row", 2)]) rfl sc_chained.nd (pi_tup (pv 1)) (blkOk_by (N := ["first", "second", "row", "later", "known", "rows"]) (sc := defScope s_chained) (by decide +kernel)) (fun _ _ _ _ _ => (pg_name (i := 2) sc_chained.nd rfl (by first | exact .inl rfl | exact .inr rfl))) (fun _ _ _ _ _ => (pts_one (pt_cmpR (op_ninK (K := K)) (pe_ix (ix_K (K := K)) (pv 2) pe_int (fun _ _ => rfl)) (pv 4) (by rfl)))) (fun _ _ _ _ _ => (pv 2)))))
    (pss_cons (ps_if (pt_cmpR op_gt (pe_callB call_lenA (by rfl) T.z_len PySem.boot_len (pa_cons (pv 5) pa_nil)) pe_int (nomark _))
     (pss_one ps_never)
     pss_nil)
    (pss_one (ps_ret (pv 5)))))))), ?_⟩
  dsimp only [cxOf, Cx.nox, Cx.wish, L2.start, List.map, List.length, List.replicate, List.append]
  walk_at "rd"
  refine ⟨⟨_, .inl eu⟩, fun D nD => ?_⟩
  refine dc_tup (xs := [V.ref b]) (fun i H' => Here (Same H H' ∧ H' D = some (.dK (([(Sum.inr r.f, V.ref b)] : List (L2.Key × V)).take i)))) (.mk ⟨same_new nD, upd_same⟩) (fun i H' hi y => ?_) (fun i x H' e y => ?_) (fun H1 y => ?_)
  · obtain ⟨s1, _⟩ := y.out
    exact sqT_same s1 (.inl eu)
  · obtain ⟨s1, hD⟩ := y.out
    obtain rfl : i = 0 := by
      have := (List.getElem?_eq_some_iff.mp e).1
      simp only [List.length_singleton] at this
      omega
    obtain rfl : V.ref b = x := by simpa using e
    have hb1 : SqT K H' b (rowV r) := .inl (rd_same s1 hb)
    have ix : atI (rowV r) 0 = some (.str r.f) := atI_nat (j := 0) rfl
    walk_at "rd"
    refine ⟨[], Sum.inr r.f, rfl, hD, by rw [sizeLine_eq]; decide, .mk ⟨fun b o q => by rw [upd_ne (ne_of_none q nD)]; exact s1 _ _ q, by rw [upd_same]; rfl⟩⟩
  · obtain ⟨s1, hD⟩ := y.out
    have hD : H1 D = some (.dK [(Sum.inr r.f, V.ref b)]) := hD
    walk_at "rd"
    refine ⟨⟨vs, sqT_same s1 (.inl et)⟩, fun E2 nE => ?_⟩
    refine lc_tup (xs := vs) (fun i H' => Here (Same H1 H' ∧ H' E2 = some (.lst ((rs.take i).map fun x => V.str x.f)))) (.mk ⟨same_new nE, upd_same⟩) (fun i H' hi y => ?_) (fun i x H' e y => ?_) (fun H2 y => ?_)
    · obtain ⟨s2, _⟩ := y.out
      exact sqT_same (s1.trans s2) (.inl et)
    · obtain ⟨s2, hE⟩ := y.out
      obtain ⟨x, e1, a, rfl, ha, hz⟩ := rt.at e
      have ha1 : SqT K H' a (rowV x) := .inl (rd_same (s1.trans s2) ha)
      have ix : atI (rowV x) 0 = some (.str x.f) := atI_nat (j := 0) rfl
      walk_at "rd"
      refine ⟨_, hE, ?_, .mk ⟨fun b o q => by rw [upd_ne (ne_of_none q nE)]; exact s2 _ _ q, by rw [upd_same, List.take_succ, e1, List.map_append]; rfl⟩⟩
      rw [List.length_map, List.length_take, sizeLine_eq]
      omega
    · obtain ⟨s2, hE⟩ := y.out
      rw [lv, List.take_length] at hE
      have s12 := s1.trans s2
      have hD := s2 _ _ hD
      walk_at "rd"
      refine ⟨⟨vs, sqT_same s12 (.inl et)⟩, fun F nF => ?_⟩
      refine lc_tup (xs := vs) (fun i H' => Here (Same H2 H' ∧ H' F = some (.lst (vs.take i)))) (.mk ⟨same_new nF, upd_same⟩) (fun i H' hi y => ?_) (fun i x H' e y => ?_) (fun H3 y => ?_)
      · obtain ⟨s3, _⟩ := y.out
        exact sqT_same (s12.trans s3) (.inl et)
      · obtain ⟨s3, hF⟩ := y.out
        obtain ⟨x, e1, a, rfl, ha, hz⟩ := rt.at e
        have ha1 : SqT K H' a (rowV x) := .inl (rd_same (s12.trans s3) ha)
        have ix : atI (rowV x) 0 = some (.str x.f) := atI_nat (j := 0) rfl
        have nx : valV ([(Sum.inr r.f, V.ref b)] : List (L2.Key × V)) (Sum.inr x.f) = none := by
          have := ne x (List.mem_of_getElem? e1)
          exact valV_neg fun q => this (Sum.inr.inj q).symm
        walk_at "rd"
        refine ⟨D, none, rfl, .inl ⟨_, Sum.inr x.f, .inl (s3 _ _ hD), rfl, nx.symm⟩, ?_⟩
        walk_at "rd"
        refine ⟨_, hF, ?_, .mk ⟨fun b o q => by rw [upd_ne (ne_of_none q nF)]; exact s3 _ _ q, by rw [upd_same, List.take_succ, e]; rfl⟩⟩
        rw [List.length_take, sizeLine_eq]
        omega
      · obtain ⟨s3, hF⟩ := y.out
        rw [List.take_length] at hF
        have s13 := s12.trans s3
        have hE := s3 _ _ hE
        walk_at "rd"
        refine ⟨⟨_, sqT_same s13 (.inl eu)⟩, fun G nG => ?_⟩
        have fl : (rs.map fun x => V.str x.f).all flatV = true := List.all_eq_true.mpr fun v m => by obtain ⟨y, _, rfl⟩ := List.mem_map.mp m; rfl
        refine lc_tup (xs := [V.ref b]) (fun i H' => Here (Same H3 H' ∧ H' G = some (.lst ([V.ref b].take i)))) (.mk ⟨same_new nG, upd_same⟩) (fun i H' hi y => ?_) (fun i x H' e y => ?_) (fun H4 y => ?_)
        · obtain ⟨s4, _⟩ := y.out
          exact sqT_same (s13.trans s4) (.inl eu)
        · obtain ⟨s4, hG⟩ := y.out
          obtain rfl : i = 0 := by
            have := (List.getElem?_eq_some_iff.mp e).1
            simp only [List.length_singleton] at this
            omega
          obtain rfl : V.ref b = x := by simpa using e
          have hb1 : SqT K H' b (rowV r) := .inl (rd_same (s13.trans s4) hb)
          have ix : atI (rowV r) 0 = some (.str r.f) := atI_nat (j := 0) rfl
          have sE : SqL K H' E2 (rs.map fun x => V.str x.f) := SqL.of (s4 _ _ hE)
          walk_at "rd"
          refine ite2 (fun g => ?_) (fun g => ?_)
          · walk_at "rd"
            exact ⟨_, hG, by simp [sizeLine_eq], .mk ⟨fun b o q => by rw [upd_ne (ne_of_none q nG)]; exact s4 _ _ q, by rw [upd_same]; rfl⟩⟩
          · exfalso
            have em : (rs.map fun x => V.str x.f) = (rs.map R3.f).map V.str := by rw [List.map_map]; rfl
            rw [em, inV_strs] at g
            have g : r.f ∈ rs.map R3.f := by simpa using g
            obtain ⟨x, hx, q⟩ := List.mem_map.mp g
            exact ne x hx q
        · obtain ⟨s4, hG⟩ := y.out
          have hG : H4 G = some (.lst [V.ref b]) := hG
          have hF := s4 _ _ hF
          have s14 := s13.trans s4
          refine .inr (.inr (.inl ⟨F, G, _, _, rfl, rfl, hF, hG, by rw [sizeLine_eq]; show _ + 1 ≤ _; omega, fun q nq => ?_⟩))
          have s5 := s14.trans (same_new (o := .lst (vs ++ [V.ref b])) nq)
          have hq : upd H4 q (.lst (vs ++ [V.ref b])) q = some (.lst (vs ++ [V.ref b])) := upd_same
          generalize upd H4 q (.lst (vs ++ [V.ref b])) = H5 at s5 hq ⊢
          have sq : SqL K H5 q (vs ++ [V.ref b]) := SqL.of hq
          have lq : (vs ++ [V.ref b]).length = rs.length + 1 := by rw [List.length_append, lv]; rfl
          walk_at "rd"
          refine ite2 (fun g => ?_) (fun g => ?_)
          · have g := of_decide_eq_true g
            rw [lq] at g
            omega
          · walk_at "rd"
            refine k q H5 s5 (s14.free nq) (.lst hq (by rw [lq, sizeLine_eq]; omega) ?_)
            exact (Rows.snoc (RowAt.keep ⟨b, rfl, hb, lb⟩ s5) (rt.keep s5)).is
theorem ok_rsh (T : Tx K mg) : FnOk P w K mg base CX0 4 (He.fAd K at_ChangeU_rshiftU) (fdOf K at_ChangeU_rshiftU) ["self", "other"] (sp_rsh K) := by
  have G_ChangeU_initU := ok_init (P := P) (w := w) (base := base) T
  have G_chained := ok_chained (P := P) (w := w) (base := base) T
  refine T.F_ChangeU_rshiftU.ok sc_ChangeU_rshiftU (fun vs H Q E h => ?_) (fun cdv A outer s H vs Q E hr h => ?_)
  · obtain ⟨_, _, _, _, rfl, _⟩ := h
    rfl
  obtain ⟨p, o, rs, r, rfl, ⟨dx, t, hp, ht⟩, ⟨dy, u, ho, hu⟩, ne, few, k⟩ := h
  refine ⟨_, PSs.nox (pss_one (ps_ret (pe_make T.mk_Change G_ChangeU_initU (hr.mono (by first | decide | omega)) (by rfl) T.m_Change T.b_ChangeU_initU .nil pass0 (pa_cons (pe_call G_chained (hr.mono (by first | decide | omega)) (by rfl) T.m_chained T.F_chained.kp T.b_chained .nil pass0 (pa_cons (pe_fld (pv 0) (by rfl)) (pa_cons (pe_fld (pv 1) (by rfl)) pa_nil))) pa_nil)))), ?_⟩
  have cl := T.cl_Change
  have nn := T.n_Change_assignments
  dsimp only [cxOf, Cx.nox, Cx.wish, L2.start, List.map, List.length, List.replicate, List.append]
  walk_at "rd"
  refine ⟨p, CC K, dx, _, .ref t, rfl, hp, cl, nn, rfl, ?_⟩
  walk_at "rd"
  refine ⟨o, CC K, dy, _, .ref u, rfl, ho, cl, nn, rfl, ?_⟩
  walk_at "rd"
  refine ⟨t, u, rs, r, rfl, ht, hu, ne, few, fun q H1 s1 nq hq => ?_⟩
  exact make_chg (H := H) s1 hq (by rw [List.length_append]; show _ + 1 ≤ _; omega) k
/-- one assignment done -/
def putR (acc : List (Str × Int)) (r : R3) : List (Str × Int) := acc.map fun kv => if kv.1 = r.f then (kv.1, if r.d = true then kv.2 + r.n else r.n) else kv
def chgK (rs : List R3) (kvs : List (Str × Int)) : List (Str × Int) := rs.foldl putR kvs
theorem putR_keys (acc : List (Str × Int)) (r : R3) : (putR acc r).map (·.1) = acc.map (·.1) := by
  unfold putR
  rw [List.map_map]
  refine List.map_congr_left fun kv _ => ?_
  show (if kv.1 = r.f then _ else kv).1 = kv.1
  split <;> rfl
theorem chgK_keys : ∀ (rs : List R3) (kvs : List (Str × Int)), (chgK rs kvs).map (·.1) = kvs.map (·.1)
  | [], _ => rfl
  | r :: rs, kvs => by
    show (chgK rs (putR kvs r)).map (·.1) = _
    rw [chgK_keys rs, putR_keys]
theorem chgK_snoc (rs : List R3) (r : R3) (kvs : List (Str × Int)) : chgK (rs ++ [r]) kvs = putR (chgK rs kvs) r := by
  unfold chgK
  rw [List.foldl_append]
  rfl
theorem key_at {kvs : List (Str × Int)} {f : Str} (h : f ∈ kvs.map (·.1)) : ∃ (i : Nat) (n : Int), kvs[i]? = some (f, n) := by
  obtain ⟨kv, m, rfl⟩ := List.mem_map.mp h
  obtain ⟨i, e⟩ := List.mem_iff_getElem?.mp m
  exact ⟨i, kv.2, e⟩
theorem put_row {acc : List (Str × Int)} {r : R3} {i : Nat} {n : Int} (nd : (acc.map (·.1)).Nodup) (e : acc[i]? = some (r.f, n)) : putK (acc.map dkv) (Sum.inr r.f : L2.Key) (.int (if r.d = true then n + r.n else r.n)) = (putR acc r).map dkv := by
  have h1 : ((acc.map dkv).any fun kv => decide (kv.1 = (Sum.inr r.f : L2.Key))) = true := List.any_eq_true.mpr ⟨dkv (r.f, n), List.mem_map.mpr ⟨_, List.mem_of_getElem? e, rfl⟩, decide_eq_true rfl⟩
  unfold putK putR
  rw [if_pos h1, List.map_map, List.map_map]
  refine List.map_congr_left fun kv m => ?_
  show (if (dkv kv).1 = Sum.inr r.f then _ else dkv kv) = dkv (if kv.1 = r.f then _ else kv)
  by_cases q : kv.1 = r.f
  · have q2 : (dkv kv).1 = (Sum.inr r.f : L2.Key) := congrArg Sum.inr q
    rw [if_pos q2, if_pos q]
    have : kv = (r.f, n) := by
      obtain ⟨j, ej⟩ := List.mem_iff_getElem?.mp m
      obtain ⟨hi, e1⟩ := List.getElem?_eq_some_iff.mp e
      obtain ⟨hj, e2⟩ := List.getElem?_eq_some_iff.mp ej
      have hij : i = j := by
        have pw := List.pairwise_iff_getElem.mp nd
        have l1 : i < (acc.map (·.1)).length := by rw [List.length_map]; exact hi
        have l2 : j < (acc.map (·.1)).length := by rw [List.length_map]; exact hj
        rcases Nat.lt_trichotomy i j with z | z | z
        · exact (pw i j l1 l2 z (by rw [List.getElem_map, List.getElem_map, e1, e2]; exact q.symm)).elim
        · exact z
        · exact (pw j i l2 l1 z (by rw [List.getElem_map, List.getElem_map, e1, e2]; exact q)).elim
      subst hij
      rw [← e1, ← e2]
    rw [this]
  · have q2 : ¬ (dkv kv).1 = (Sum.inr r.f : L2.Key) := fun z => q (Sum.inr.inj z)
    rw [if_neg q2, if_neg q]
def sp_call (K : PySem.W.Frag) : Sp := fun vs H Q _ => ∃ (p c : Addr) (rs : List R3) (kvs : List (Str × Int)), vs = [.ref p, .ref c] ∧ Chg K H p rs ∧ H c = some (.dK (kvs.map dkv)) ∧ (kvs.map (·.1)).Nodup ∧ (∀ r ∈ rs, r.f ∈ kvs.map (·.1)) ∧ rs.length ≤ 100 ∧ kvs.length ≤ 1000 ∧
  ∀ q H', Same H H' → H q = none → H' q = some (.dK ((chgK rs kvs).map dkv)) → Q (.ref q) H'
theorem ok_call (T : Tx K mg) : FnOk P w K mg base CX0 4 (He.fAd K at_ChangeU_callU) (fdOf K at_ChangeU_callU) ["self", "content"] (sp_call K) := by
  have G_Change_assigned := ok_assigned (P := P) (w := w) (base := base) T
  refine T.F_ChangeU_callU.ok sc_ChangeU_callU (fun vs H Q E h => ?_) (fun cdv A outer s H vs Q E hr h => ?_)
  · obtain ⟨_, _, _, _, rfl, _⟩ := h
    rfl
  obtain ⟨p, c, rs, kvs, rfl, O, hc, nd, inn, few, fewk, k⟩ := h
  obtain ⟨dx, t, hp, ht⟩ := id O
  obtain ⟨vs, et, zt, rt⟩ := tup_inv ht
  have lv := rt.len
  refine ⟨_, PSs.nox (pss_cutT (ps_for PassesOwn.never rfl (pi_tup (pe_prop (pv 0) T.cl_Change T.pr_Change_assigned G_Change_assigned (hr.mono (by first | decide | omega)) T.b_Change_assigned .nil pass0 (by rfl))) (pg_name (i := 2) sc_ChangeU_callU.nd rfl (by first | exact .inl rfl | exact .inr rfl))
     (pss_one (ps_if (pt_cmp (pc_dnotin (hu_of hr) (pv 2) (pv 1)))
      (pss_one ps_never)
      pss_nil)))
    (pss_cons (ps_set (i := 3) sc_ChangeU_callU.nd rfl (by first | exact .inl rfl | exact .inr rfl) (pe_callTy call_dictD (by rfl) T.z_dict (by decide +kernel) (pa_cons (pv 1) pa_nil)))
    (pss_cons (ps_for PassesOwn.never rfl (pi_tup (pe_fld (pv 0) (by rfl))) (pg_tup (by rfl) (pgs_cons (pg_name (i := 2) sc_ChangeU_callU.nd rfl (by first | exact .inl rfl | exact .inr rfl)) (pgs_cons (pg_name (i := 4) sc_ChangeU_callU.nd rfl (by first | exact .inl rfl | exact .inr rfl)) (pgs_cons (pg_name (i := 5) sc_ChangeU_callU.nd rfl (by first | exact .inl rfl | exact .inr rfl)) pgs_nil))))
     (pss_one (ps_dput (hu_of hr) (pv 3) (pv 2) (pe_ifExp (pt_cmpR op_eqA (pv 4) pe_str (nomark _)) (pe_op op_addA (pe_dget (hu_of hr) (pv 3) (pv 2) (fun _ _ => rfl)) (pv 5)) (pv 5)) rfl)))
    (pss_one (ps_ret (pv 3)))))), ?_⟩
  have cl := T.cl_Change
  have nn := T.n_Change_assignments
  dsimp only [cxOf, Cx.nox, Cx.wish, L2.start, List.map, List.length, List.replicate, List.append]
  refine ⟨fun σ H' => Here (∃ o2, σ = [some (.ref p), some (.ref c), o2, none, none, none] ∧ Same H H'), ?_, fun σ H1 y => ?_⟩
  · walk_at "rd"
    refine ⟨p, dx, _, rfl, hp, ?_⟩
    refine ⟨p, rs, rfl, O, few, fun q H1 s1 hq => ?_⟩
    refine ⟨q, rfl, ⟨_, SqT.of hq⟩, ?_⟩
    refine for_tup (xs := rs.map fun r => V.str r.f) (fun i σ H' => Here (∃ o2, σ = [some (.ref p), some (.ref c), o2, none, none, none] ∧ Same H1 H')) (.mk ⟨none, rfl, Same.refl _⟩) (fun i σ H' _ y => ?_) (fun i v σ H' e y => ?_) (fun σ H' y => ?_)
    · obtain ⟨_, _, s2⟩ := y.out
      exact SqT.of (s2 _ _ hq)
    · obtain ⟨o2, rfl, s2⟩ := y.out
      rw [List.getElem?_map] at e
      obtain ⟨r, e1, rfl⟩ := Option.map_eq_some_iff.mp e
      obtain ⟨j, n, ej⟩ := key_at (inn r (List.mem_of_getElem? e1))
      have va := val_at nd ej
      walk_at "rd"
      refine ⟨c, some (.int n), rfl, .inl ⟨_, Sum.inr r.f, .inl (s2 _ _ (s1 _ _ hc)), rfl, va.symm⟩, ?_⟩
      walk_at "rd"
      exact .mk ⟨_, rfl, s2⟩
    · obtain ⟨o2, rfl, s2⟩ := y.out
      exact .mk ⟨_, rfl, s1.trans s2⟩
  · obtain ⟨o2, rfl, s1⟩ := y.out
    walk_at "rd"
    refine ⟨c, _, rfl, .inl (s1 _ _ hc), fun q nq => ?_⟩
    have s2 := s1.trans (same_new (o := .dK (kvs.map dkv)) nq)
    have hq : upd H1 q (.dK (kvs.map dkv)) q = some (.dK ((chgK (rs.take 0) kvs).map dkv)) := upd_same
    have nqH := s1.free nq
    generalize upd H1 q (.dK (kvs.map dkv)) = H2 at s2 hq ⊢
    walk_at "rd"
    refine ⟨p, CC K, dx, _, .ref t, rfl, s2 _ _ hp, cl, nn, rfl, t, rfl, ⟨vs, sqT_same s2 (.inl et)⟩, ?_⟩
    refine for_tup (xs := vs) (fun i σ H' => Here (∃ o2 o4 o5, σ = [some (.ref p), some (.ref c), o2, some (.ref q), o4, o5] ∧ Same H H' ∧ H' q = some (.dK ((chgK (rs.take i) kvs).map dkv)))) (.mk ⟨_, none, none, rfl, s2, hq⟩) (fun i σ H' _ y => ?_) (fun i v σ H' e y => ?_) (fun σ H' y => ?_)
    · obtain ⟨_, _, _, _, s3, _⟩ := y.out
      exact sqT_same s3 (.inl et)
    · obtain ⟨o2', o4, o5, rfl, s3, hq3⟩ := y.out
      obtain ⟨r, e1, a, rfl, ha, hz⟩ := rt.at e
      have ha1 : SqT K H' a (rowV r) := .inl (rd_same s3 ha)
      have nd3 : ((chgK (rs.take i) kvs).map (·.1)).Nodup := by rw [chgK_keys]; exact nd
      obtain ⟨j, n, ej⟩ := key_at (kvs := chgK (rs.take i) kvs) (f := r.f) (by rw [chgK_keys]; exact inn r (List.mem_of_getElem? e1))
      have va := val_at nd3 ej
      have pr := put_row (r := r) nd3 ej
      have lk : ((chgK (rs.take i) kvs).map dkv).length < sizeLine := by
        have := congrArg List.length (chgK_keys (rs.take i) kvs)
        rw [List.length_map, List.length_map] at this
        rw [List.length_map, this, sizeLine_eq]
        omega
      have es : chgK (rs.take (i + 1)) kvs = putR (chgK (rs.take i) kvs) r := by rw [List.take_succ, e1]; exact chgK_snoc _ _ _
      have fin : ∀ (o2 o4 o5 : Option V), Here (∃ o2' o4' o5', ([some (.ref p), some (.ref c), o2, some (.ref q), o4, o5] : L2.St) = [some (.ref p), some (.ref c), o2', some (.ref q), o4', o5'] ∧
          Same H (upd H' q (.dK (putK ((chgK (rs.take i) kvs).map dkv) (Sum.inr r.f) (.int (if r.d = true then n + r.n else r.n))))) ∧ upd H' q (.dK (putK ((chgK (rs.take i) kvs).map dkv) (Sum.inr r.f) (.int (if r.d = true then n + r.n else r.n)))) q = some (.dK ((chgK (rs.take (i + 1)) kvs).map dkv))) := fun _ _ _ =>
        .mk ⟨_, _, _, rfl, fun b o z => by rw [upd_ne (ne_of_none z nqH)]; exact s3 _ _ z, by rw [upd_same, pr, es]⟩
      refine ⟨a, _, rfl, ha1, rfl, _, _, rfl, _, _, rfl, _, _, rfl, rfl, ?_⟩
      walk_at "rd"
      have hdec : decide (V.str r.deed = V.str "add") = r.d := by
        unfold R3.deed
        cases r.d <;> decide +kernel
      rw [hdec]
      cases hrd : r.d with
      | true =>
        rw [hrd] at fin
        walk_at "rd"
        refine ⟨q, .int n, rfl, .inl ⟨_, Sum.inr r.f, .inl hq3, rfl, va.symm⟩, ?_⟩
        walk_at "rd"
        refine ⟨q, _, rfl, .inl ⟨_, Sum.inr r.f, hq3, rfl, lk, rfl⟩, ?_⟩
        exact fin _ _ _
      | false =>
        rw [hrd] at fin
        walk_at "rd"
        refine ⟨q, _, rfl, .inl ⟨_, Sum.inr r.f, hq3, rfl, lk, rfl⟩, ?_⟩
        exact fin _ _ _
    · obtain ⟨o2', o4, o5, rfl, s3, hq3⟩ := y.out
      rw [lv, List.take_length] at hq3
      walk_at "rd"
      exact k q H' s3 nqH hq3
end
end K13
namespace K13
open PySem PySem.Spec PyProof.Rows L2 TK
def sp_chd : Sp := fun vs H Q _ => ∃ (l c : Addr) (us : List V) (rs : List R3) (kvs : List (Str × Int)), vs = [.ref l, .ref c] ∧ H l = some (.lst us) ∧ Rows H us rs ∧ H c = some (.dK (kvs.map dkv)) ∧ (kvs.map (·.1)).Nodup ∧ (∀ r ∈ rs, r.f ∈ kvs.map (·.1)) ∧ rs.length ≤ 100 ∧ kvs.length ≤ 1000 ∧
  ∀ q H', Same H H' → H q = none → H' q = some (.dK ((chgK rs kvs).map dkv)) → Q (.ref q) H'
def sp_chg (K : PySem.W.Frag) : Sp := fun vs H Q _ => ∃ (l : Addr) (us : List V) (rs : List R3), vs = [.ref l] ∧ H l = some (.lst us) ∧ Rows H us rs ∧ (rs.map R3.f).Nodup ∧ (∀ r ∈ rs, isName r.f = true ∧ -B30 ≤ r.n ∧ r.n ≤ B30) ∧ rs.length ≤ 3 ∧
  ∀ q H', Same H H' → H q = none → Chg K H' q rs → Q (.ref q) H'
section
variable {P : Program} {w : World} {K : PySem.W.Frag} {mg : Str → Option Value} {base : Heap}
theorem ok_changed (T : Tx K mg) : FnOk P w K mg base CX0 4 (He.fAd K at_law_changed) (fdOf K at_law_changed) ["rows", "content"] sp_chd := by
  refine T.F_law_changed.ok sc_law_changed (fun vs H Q E h => ?_) (fun cdv A outer s H vs Q E hr h => ?_)
  · obtain ⟨_, _, _, _, _, rfl, _⟩ := h
    rfl
  obtain ⟨l, c, us, rs, kvs, rfl, hl, ru, hc, nd, inn, few, fewk, k⟩ := h
  have lu := ru.len
  refine ⟨_, PSs.nox (pss_cons (ps_set (i := 2) sc_law_changed.nd rfl (by first | exact .inl rfl | exact .inr rfl) (pe_callTy call_dictD (by rfl) T.z_dict (by decide +kernel) (pa_cons (pv 1) pa_nil)))
    (pss_cons (ps_for PassesOwn.never rfl (pi_list (pv 0)) (pg_name (i := 3) sc_law_changed.nd rfl (by first | exact .inl rfl | exact .inr rfl))
     (pss_one (ps_if (pt_cmpR op_eqA (pe_ix ix_A (pv 3) pe_int (fun _ _ => rfl)) pe_str (nomark _))
      (pss_one (ps_dput (hu_of hr) (pv 2) (pe_ix ix_A (pv 3) pe_int (fun _ _ => rfl)) (pe_op op_addA (pe_dget (hu_of hr) (pv 2) (pe_ix ix_A (pv 3) pe_int (fun _ _ => rfl)) (fun _ _ => rfl)) (pe_ix ix_A (pv 3) pe_int (fun _ _ => rfl))) rfl))
      (pss_one (ps_dput (hu_of hr) (pv 2) (pe_ix ix_A (pv 3) pe_int (fun _ _ => rfl)) (pe_ix ix_A (pv 3) pe_int (fun _ _ => rfl)) rfl)))))
    (pss_one (ps_ret (pv 2))))), ?_⟩
  dsimp only [cxOf, Cx.nox, Cx.wish, L2.start, List.map, List.length, List.replicate, List.append]
  walk_at "rd"
  refine ⟨c, _, rfl, .inl hc, fun q nq => ?_⟩
  have s2 := same_new (o := .dK (kvs.map dkv)) nq
  have hq : upd H q (.dK (kvs.map dkv)) q = some (.dK ((chgK (rs.take 0) kvs).map dkv)) := upd_same
  generalize upd H q (.dK (kvs.map dkv)) = H2 at s2 hq ⊢
  have hl2 := s2 _ _ hl
  walk_at "rd"
  refine for_list (xs := us) (fun i σ H' => Here (∃ o, σ = [some (.ref l), some (.ref c), some (.ref q), o] ∧ Same H H' ∧ H' q = some (.dK ((chgK (rs.take i) kvs).map dkv)))) (.mk ⟨none, rfl, s2, hq⟩) (fun i σ H' _ y => ?_) (fun i v σ H' e y => ?_) (fun σ H' y => ?_)
  · obtain ⟨_, _, s3, _⟩ := y.out
    exact SqL.of (s3 _ _ hl)
  · obtain ⟨o, rfl, s3, hq3⟩ := y.out
    obtain ⟨r, e1, a, rfl, ha, hz⟩ := ru.at e
    obtain ⟨dd, hdd⟩ : ∃ dd, r.deed = dd := ⟨_, rfl⟩
    have ha1 : SqT K H' a [.str r.f, .str dd, .int r.n] := by rw [← hdd]; exact .inl (rd_same s3 ha)
    have nd3 : ((chgK (rs.take i) kvs).map (·.1)).Nodup := by rw [chgK_keys]; exact nd
    obtain ⟨j, n, ej⟩ := key_at (kvs := chgK (rs.take i) kvs) (f := r.f) (by rw [chgK_keys]; exact inn r (List.mem_of_getElem? e1))
    have va := val_at nd3 ej
    have pr := put_row (r := r) nd3 ej
    have lk : ((chgK (rs.take i) kvs).map dkv).length < sizeLine := by
      have := congrArg List.length (chgK_keys (rs.take i) kvs)
      rw [List.length_map, List.length_map] at this
      rw [List.length_map, this, sizeLine_eq]
      omega
    have es : chgK (rs.take (i + 1)) kvs = putR (chgK (rs.take i) kvs) r := by rw [List.take_succ, e1]; exact chgK_snoc _ _ _
    have fin : Here (∃ o', ([some (.ref l), some (.ref c), some (.ref q), some (.ref a)] : L2.St) = [some (.ref l), some (.ref c), some (.ref q), o'] ∧
        Same H (upd H' q (.dK (putK ((chgK (rs.take i) kvs).map dkv) (Sum.inr r.f) (.int (if r.d = true then n + r.n else r.n))))) ∧ upd H' q (.dK (putK ((chgK (rs.take i) kvs).map dkv) (Sum.inr r.f) (.int (if r.d = true then n + r.n else r.n)))) q = some (.dK ((chgK (rs.take (i + 1)) kvs).map dkv))) :=
      .mk ⟨_, rfl, fun b o z => by rw [upd_ne (ne_of_none z nq)]; exact s3 _ _ z, by rw [upd_same, pr, es]⟩
    have i0 : atI ([.str r.f, .str dd, .int r.n] : List V) 0 = some (.str r.f) := atI_nat (j := 0) rfl
    have i1 : atI ([.str r.f, .str dd, .int r.n] : List V) 1 = some (.str dd) := atI_nat (j := 1) rfl
    have i2 : atI ([.str r.f, .str dd, .int r.n] : List V) 2 = some (.int r.n) := atI_nat (j := 2) rfl
    walk_at "rd"
    have hdec : decide (V.str dd = V.str "add") = r.d := by
      rw [← hdd]
      unfold R3.deed
      cases r.d <;> decide +kernel
    rw [hdec]
    cases hrd : r.d with
    | true =>
      rw [hrd] at fin
      refine iteT ?_
      walk_at "rd"
      refine ⟨q, .int n, rfl, .inl ⟨_, Sum.inr r.f, .inl hq3, rfl, va.symm⟩, ?_⟩
      walk_at "rd"
      refine ⟨q, _, rfl, .inl ⟨_, Sum.inr r.f, hq3, rfl, lk, rfl⟩, ?_⟩
      exact fin
    | false =>
      rw [hrd] at fin
      refine iteF ?_
      walk_at "rd"
      refine ⟨q, _, rfl, .inl ⟨_, Sum.inr r.f, hq3, rfl, lk, rfl⟩, ?_⟩
      exact fin
  · obtain ⟨o, rfl, s3, hq3⟩ := y.out
    rw [lu, List.take_length] at hq3
    walk_at "rd"
    exact k q H' s3 nq hq3
theorem ok_change (T : Tx K mg) : FnOk P w K mg base CX0 5 (He.fAd K at_law_change) (fdOf K at_law_change) ["rows"] (sp_chg K) := by
  have G_ChangeU_rshiftU := ok_rsh (P := P) (w := w) (base := base) T
  have G_Change_none := ok_none (P := P) (w := w) (base := base) T
  have G_Change_adding := ok_adding (P := P) (w := w) (base := base) T
  have G_Change_setting := ok_setting (P := P) (w := w) (base := base) T
  refine T.F_law_change.ok sc_law_change (fun vs H Q E h => ?_) (fun cdv A outer s H vs Q E hr h => ?_)
  · obtain ⟨_, _, _, rfl, _⟩ := h
    rfl
  obtain ⟨l, us, rs, rfl, hl, ru, nd, good, few, k⟩ := h
  have lu := ru.len
  refine ⟨_, PSs.nox (pss_cons (ps_set (i := 1) sc_law_change.nd rfl (by first | exact .inl rfl | exact .inr rfl) (pe_sm0 (pe_globE (v := .ref (He.ga K "Change")) (by rfl) ⟨_, T.m_Change, rfl⟩) T.cr_Change T.sm_Change_none G_Change_none (hr.mono (by first | decide | omega)) T.b_Change_none pass0))
    (pss_cons (ps_for PassesOwn.never rfl (pi_list (pv 0)) (pg_name (i := 2) sc_law_change.nd rfl (by first | exact .inl rfl | exact .inr rfl))
     (pss_one (ps_if (pt_cmpR op_eqA (pe_ix ix_A (pv 2) pe_int (fun _ _ => rfl)) pe_str (nomark _))
      (pss_one (ps_set (i := 1) sc_law_change.nd rfl (by first | exact .inl rfl | exact .inr rfl) (pe_op (op_sameO T.me_Change_rshift T.x_first G_ChangeU_rshiftU (hr.mono (by first | decide | omega)) T.b_ChangeU_rshiftU pass0) (pv 1) (pe_sm (pe_globE (v := .ref (He.ga K "Change")) (by rfl) ⟨_, T.m_Change, rfl⟩) T.cr_Change T.sm_Change_adding G_Change_adding (hr.mono (by first | decide | omega)) T.b_Change_adding pass0 (pa_cons (pe_ix ix_A (pv 2) pe_int (fun _ _ => rfl)) (pa_cons (pe_ix ix_A (pv 2) pe_int (fun _ _ => rfl)) pa_nil))))))
      (pss_one (ps_set (i := 1) sc_law_change.nd rfl (by first | exact .inl rfl | exact .inr rfl) (pe_op (op_sameO T.me_Change_rshift T.x_first G_ChangeU_rshiftU (hr.mono (by first | decide | omega)) T.b_ChangeU_rshiftU pass0) (pv 1) (pe_sm (pe_globE (v := .ref (He.ga K "Change")) (by rfl) ⟨_, T.m_Change, rfl⟩) T.cr_Change T.sm_Change_setting G_Change_setting (hr.mono (by first | decide | omega)) T.b_Change_setting pass0 (pa_cons (pe_ix ix_A (pv 2) pe_int (fun _ _ => rfl)) (pa_cons (pe_ix ix_A (pv 2) pe_int (fun _ _ => rfl)) pa_nil)))))))))
    (pss_one (ps_ret (pv 1))))), ?_⟩
  dsimp only [cxOf, Cx.nox, Cx.wish, L2.start, List.map, List.length, List.replicate, List.append]
  walk_at "rd"
  intro q0 H1 s1 nq0 C0
  have hl2 := s1 _ _ hl
  walk_at "rd"
  refine for_list (xs := us) (fun i σ H' => Here (∃ o q, σ = [some (.ref l), some (.ref q), o] ∧ Same H H' ∧ H q = none ∧ Chg K H' q (rs.take i))) (.mk ⟨none, q0, rfl, s1, nq0, C0⟩) (fun i σ H' _ y => ?_) (fun i v σ H' e y => ?_) (fun σ H' y => ?_)
  · obtain ⟨_, _, _, s3, _⟩ := y.out
    exact SqL.of (s3 _ _ hl)
  · obtain ⟨o, q, rfl, s3, nq, Cq⟩ := y.out
    obtain ⟨r, e1, a, rfl, ha, hz⟩ := ru.at e
    obtain ⟨dd, hdd⟩ : ∃ dd, r.deed = dd := ⟨_, rfl⟩
    have ha1 : SqT K H' a [.str r.f, .str dd, .int r.n] := by rw [← hdd]; exact .inl (rd_same s3 ha)
    obtain ⟨g1, g2, g3⟩ := good r (List.mem_of_getElem? e1)
    have hi := (List.getElem?_eq_some_iff.mp e1).1
    have ne : ∀ x ∈ rs.take i, x.f ≠ r.f := fun x m z => by
      obtain ⟨j, ej⟩ := List.mem_iff_getElem?.mp m
      have lj : j < i := by
        have := (List.getElem?_eq_some_iff.mp ej).1
        rw [List.length_take] at this
        omega
      rw [List.getElem?_take_of_lt lj] at ej
      obtain ⟨hj, e3⟩ := List.getElem?_eq_some_iff.mp ej
      obtain ⟨hi, e4⟩ := List.getElem?_eq_some_iff.mp e1
      refine List.pairwise_iff_getElem.mp nd j i (by rw [List.length_map]; omega) (by rw [List.length_map]; omega) lj ?_
      rw [List.getElem_map, List.getElem_map, e3, e4]
      exact z
    have lt : (rs.take i).length ≤ 2 := by
      rw [List.length_take]
      omega
    have es : rs.take (i + 1) = rs.take i ++ [r] := by rw [List.take_succ, e1]; rfl
    have i0 : atI ([.str r.f, .str dd, .int r.n] : List V) 0 = some (.str r.f) := atI_nat (j := 0) rfl
    have i1 : atI ([.str r.f, .str dd, .int r.n] : List V) 1 = some (.str dd) := atI_nat (j := 1) rfl
    have i2 : atI ([.str r.f, .str dd, .int r.n] : List V) 2 = some (.int r.n) := atI_nat (j := 2) rfl
    walk_at "rd"
    have hdec : decide (V.str dd = V.str "add") = r.d := by
      rw [← hdd]
      unfold R3.deed
      cases r.d <;> decide +kernel
    rw [hdec]
    obtain ⟨rf, rd, rn⟩ := r
    cases rd with
    | true =>
      refine iteT ?_
      walk_at "rd"
      intro o1 H4 s4 no1 C1
      have Cq := Cq.keep s4
      obtain ⟨dx, t, hp, ht⟩ := id Cq
      obtain ⟨dy, u, ho, hu⟩ := id C1
      refine ⟨q, o1, dx, _, dy, _, rfl, rfl, hp, ho, ?_⟩
      refine ⟨q, o1, rs.take i, ⟨rf, true, rn⟩, rfl, Cq, C1, ne, lt, fun q2 H5 s5 nq2 C2 => ?_⟩
      refine .mk ⟨_, q2, rfl, (s3.trans s4).trans s5, (s3.trans s4).free nq2, ?_⟩
      rw [es]
      exact C2
    | false =>
      refine iteF ?_
      walk_at "rd"
      intro o1 H4 s4 no1 C1
      have Cq := Cq.keep s4
      obtain ⟨dx, t, hp, ht⟩ := id Cq
      obtain ⟨dy, u, ho, hu⟩ := id C1
      refine ⟨q, o1, dx, _, dy, _, rfl, rfl, hp, ho, ?_⟩
      refine ⟨q, o1, rs.take i, ⟨rf, false, rn⟩, rfl, Cq, C1, ne, lt, fun q2 H5 s5 nq2 C2 => ?_⟩
      refine .mk ⟨_, q2, rfl, (s3.trans s4).trans s5, (s3.trans s4).free nq2, ?_⟩
      rw [es]
      exact C2
  · obtain ⟨o, q, rfl, s3, nq, Cq⟩ := y.out
    rw [lu, List.take_length] at Cq
    walk_at "rd"
    exact k q H' s3 nq Cq
end
end K13
namespace K13
open PySem PySem.Spec PyProof.Rows L2 TK
/-- a number behind these assignments -/
def valR (rs : List R3) (k : Str) (v : Int) : Int := rs.foldl (fun v r => if k = r.f then (if r.d = true then v + r.n else r.n) else v) v
theorem chgK_val : ∀ (rs : List R3) (kvs : List (Str × Int)), chgK rs kvs = kvs.map fun kv => (kv.1, valR rs kv.1 kv.2)
  | [], kvs => (List.map_id _).symm
  | r :: rs, kvs => by
    show chgK rs (putR kvs r) = _
    rw [chgK_val rs, putR, List.map_map]
    refine List.map_congr_left fun kv _ => ?_
    show ((if kv.1 = r.f then _ else kv).1, valR rs (if kv.1 = r.f then _ else kv).1 (if kv.1 = r.f then _ else kv).2) = (kv.1, valR rs kv.1 (if kv.1 = r.f then (if r.d = true then kv.2 + r.n else r.n) else kv.2))
    split <;> rfl
theorem valR_miss : ∀ {rs : List R3} {k : Str} {v : Int}, (∀ r ∈ rs, k ≠ r.f) → valR rs k v = v
  | [], _, _, _ => rfl
  | r :: rs, k, v, h => by
    show valR rs k (if k = r.f then _ else v) = v
    rw [if_neg (h r List.mem_cons_self)]
    exact valR_miss fun x m => h x (List.mem_cons_of_mem _ m)
theorem valR_hit : ∀ {rs : List R3} {r : R3} {v : Int}, (rs.map R3.f).Nodup → r ∈ rs → valR rs r.f v = if r.d = true then v + r.n else r.n
  | [], _, _, _, m => by cases m
  | x :: rs, r, v, nd, m => by
    obtain ⟨h1, h2⟩ := List.nodup_cons.mp (show (x.f :: rs.map R3.f).Nodup from nd)
    show valR rs r.f (if r.f = x.f then _ else v) = _
    rcases List.mem_cons.mp m with e | m
    · subst e
      rw [if_pos rfl]
      exact valR_miss fun y my e => h1 (List.mem_map.mpr ⟨y, my, e.symm⟩)
    · rw [if_neg (fun e => h1 (List.mem_map.mpr ⟨r, m, e⟩))]
      exact valR_hit h2 m
theorem repR_nd {rs : List R3} {n : Int} (nd : (rs.map R3.f).Nodup) : ((repR rs n).map R3.f).Nodup := by
  unfold repR
  split
  · exact .nil
  · rw [List.map_map]
    refine (List.map_congr_left fun r _ => ?_ : rs.map (R3.f ∘ _) = rs.map R3.f) ▸ nd
    show (if r.d = true then (⟨r.f, true, r.n * n⟩ : R3) else r).f = r.f
    split <;> rfl
theorem repR_in {rs : List R3} {n : Int} {r : R3} (m : r ∈ repR rs n) : ∃ x ∈ rs, x.f = r.f := by
  unfold repR at m
  split at m
  · cases m
  · obtain ⟨x, hx, rfl⟩ := List.mem_map.mp m
    refine ⟨x, hx, ?_⟩
    split <;> rfl
theorem rep_step {rs : List R3} (nd : (rs.map R3.f).Nodup) (i : Nat) (kvs : List (Str × Int)) : chgK rs (chgK (repR rs i) kvs) = chgK (repR rs ((i : Int) + 1)) kvs := by
  rw [chgK_val, chgK_val, chgK_val, List.map_map]
  refine List.map_congr_left fun kv _ => ?_
  show (kv.1, valR rs kv.1 (valR (repR rs i) kv.1 kv.2)) = (kv.1, valR (repR rs ((i : Int) + 1)) kv.1 kv.2)
  congr 1
  by_cases q : ∃ r ∈ rs, r.f = kv.1
  · obtain ⟨r, m, e⟩ := q
    rw [← e, valR_hit nd m]
    have key : ∀ n : Int, n ≠ 0 → valR (repR rs n) r.f kv.2 = if r.d = true then kv.2 + r.n * n else r.n := fun n hn => by
      have m' : (if r.d = true then (⟨r.f, true, r.n * n⟩ : R3) else r) ∈ repR rs n := by
        rw [repR, if_neg hn]
        exact List.mem_map.mpr ⟨r, m, rfl⟩
      have h := valR_hit (v := kv.2) (repR_nd (n := n) nd) m'
      cases hd : r.d with
      | true =>
        rw [hd, if_pos rfl] at h
        exact h
      | false =>
        rw [hd, if_neg (by decide), hd, if_neg (by decide)] at h
        exact h
    rw [key ((i : Int) + 1) (by omega)]
    by_cases z : (i : Int) = 0
    · have : repR rs i = [] := by rw [repR, if_pos z]
      rw [this, z]
      show (if r.d = true then kv.2 + r.n else r.n) = _
      rw [Int.zero_add, Int.mul_one]
    · rw [key (i : Int) z]
      cases r.d with
      | true =>
        rw [if_pos rfl, if_pos rfl, if_pos rfl, Int.mul_add, Int.mul_one, Int.add_assoc]
      | false => rfl
  · have h1 : ∀ r ∈ rs, kv.1 ≠ r.f := fun r m e => q ⟨r, m, e.symm⟩
    have h2 : ∀ n : Int, ∀ r ∈ repR rs n, kv.1 ≠ r.f := fun n r m e => by
      obtain ⟨x, hx, e2⟩ := repR_in m
      exact q ⟨x, hx, e2.trans e.symm⟩
    rw [valR_miss h1, valR_miss (h2 _), valR_miss (h2 _)]
end K13
namespace K13
open PySem PySem.Spec PyProof.Rows L2 TK
/-- e.f, the frame named apart from the try -/
theorem pe_fldK {X : Cx} {K : PySem.W.Frag} (hK : X.K = K) {e : Expr} {f : Str} {pos : Pos} {ta : TE} (he : PE X e ta) (hb : attributeBase e f X.env (eval e X.env) = eval e X.env) : PE X (.Attribute e f pos) (tFld K ta f) := by
  subst hK
  exact pe_fld he hb
def doD (rs : List R3) (n : Int) : TK.D := .tup [.str "let", .tup ((repR rs n).map rowD)]
def sp_do (K : PySem.W.Frag) : Sp := fun vs H Q _ => ∃ (p : Addr) (n : Int) (b : Bool) (rs : List R3), vs = [.ref p, .int n, .bl b] ∧ Chg K H p rs ∧ rs.length ≤ 100 ∧
  (n < 0 ∨ 1000 < n → ∀ q H', Same H H' → Is H' (.ref q) (.tup [.str "refused", .int n]) → Q (.ref q) H') ∧
  (0 ≤ n → n ≤ 1000 → ∀ q H', Same H H' → Is H' (.ref q) (doD rs n) → Q (.ref q) H')
section
variable {w : World} {K : PySem.W.Frag} {mg : Str → Option Value} {base : Heap}
theorem ok_do (T : Tx K mg) : FnOk PP w K mg base CX0 8 (He.fAd K at_law_do) (fdOf K at_law_do) ["made", "times", "ahead"] (sp_do K) := by
  have G_mul := ok_mul (w := w) (base := base) T
  have G_rmul := ok_rmul (w := w) (base := base) T
  refine T.F_law_do.ok sc_law_do (fun vs H Q E h => ?_) (fun cdv A outer s H vs Q E hr h => ?_)
  · obtain ⟨_, _, _, _, rfl, _⟩ := h
    rfl
  obtain ⟨p, n, b, rs, rfl, C, few, kE, k⟩ := h
  obtain ⟨dx, t, hp, ht⟩ := id C
  have cl := T.cl_Change
  have nn := T.n_Change_assignments
  refine ⟨_, PSs.nox (pss_cons (ps_try_as (i := 3) (Wout := fun _ _ _ _ => False) rfl rfl sc_law_do.nd rfl rfl ⟨rfl, by decide, .inl T.m_ElseputError⟩ takes0
    (fun W pn xe tk _ => (pss_cons (ps_if (pt_val (pv 2)) (pss_one (ps_ret (pe_tup (pa_cons pe_str (pa_cons (pe_fldK (K := K) rfl (pe_intL T.me_Change_mul T.me_Change_rmul T.x_first (of_decide_eq_true T.x_subint) G_rmul (hr.mono (by decide)) T.b_ChangeU_rmulU (fun σ => passAt tk σ) (pv 1) (pv 0)) (by rfl)) pa_nil))))) pss_nil) (pss_one (ps_ret (pe_tup (pa_cons pe_str (pa_cons (pe_fldK (K := K) rfl (pe_ownT (op := .Mult) (T := "int") T.me_Change_mul T.x_mul G_mul (hr.mono (by decide)) T.b_ChangeU_mulU (fun σ => passAt tk σ) (pv 0) (pv 1)) (by rfl)) pa_nil)))))))
    (fun a oe cls d pn hz hf => (pss_one (ps_if (PW.pt (pw_and (pt_val (pe_callB (call_isE hz hf) (by rfl) T.z_isinstance (by decide +kernel) (pa_cons (pv 3) (pa_cons (pe_globE (v := .ref (He.ga K "BadNumber")) (by rfl) ⟨_, T.m_BadNumber, rfl⟩) pa_nil)))) (pw_and (pt_val (pe_callB (call_isE hz hf) (by rfl) T.z_isinstance (by decide +kernel) (pa_cons (pv 3) (pa_cons (pe_bltn (by rfl) T.z_ValueError (by decide +kernel) (v := .ty "ValueError") rfl) pa_nil)))) (pw_and1 (pt_not (pt_val (pe_callB (call_isE hz hf) (by rfl) T.z_isinstance (by decide +kernel) (pa_cons (pv 3) (pa_cons (pe_globE (v := .ref (He.ga K "TooLarge")) (by rfl) ⟨_, T.m_TooLarge, rfl⟩) pa_nil))))))))) (pss_one (ps_ret (pe_tup (pa_cons pe_str (pa_cons (pe_xf T.o_BadNumber.f (T.o_BadNumber.n "value" (by simp)) hz hf (pv 3)) pa_nil))))) pss_nil))))
    (pss_one (ps_ret (pe_tup (pa_cons pe_str pa_nil))))), ?_⟩
  dsimp only [cxOf, Cx.nox, Cx.wish, L2.start, List.map, List.length, List.replicate, List.append]
  walk_at "rd"
  cases b with
  | true =>
    walk_at "r1"
    walk_at "r1"
    refine ⟨n, p, dx, _, rfl, rfl, hp, ?_⟩
    refine ⟨p, n, rs, rfl, C, few, fun bad d H' s1 hd => ?_, fun n0 n1 o H' s1 no C' => ?_⟩
    · refine ⟨true, T.c_BadNumber_ElseputError, fun _ a na => ?_, fun z => nomatch z⟩
      walk_at "rd"
      refine ⟨He.ga K "BadNumber", .ref (He.ga K "BadNumber"), .ref (He.ga K "BadNumber"), true, rfl, T.o_BadNumber.e, rfl, .own _, T.k_BadNumber_BadNumber, .inr ⟨d, _, rfl, hd⟩, ?_⟩
      walk_at "rd"
      refine ⟨He.ga K "BadNumber", .ty "ValueError", .type "ValueError", true, rfl, T.o_BadNumber.e, rfl, .ty _, T.k_BadNumber_ValueError, .inr ⟨d, _, rfl, hd⟩, ?_⟩
      walk_at "rd"
      refine ⟨He.ga K "BadNumber", .ref (He.ga K "TooLarge"), .ref (He.ga K "TooLarge"), false, rfl, T.o_BadNumber.e, rfl, .own _, T.k_BadNumber_TooLarge, .inr ⟨d, _, rfl, hd⟩, ?_⟩
      walk_at "rd"
      refine ⟨d, _, .int n, rfl, hd, rfl, ?_⟩
      walk_at "rd"
      intro q nq
      refine kE bad q _ (s1.trans (same_new nq)) (.tup (.inl upd_same) (Nat.le_of_ble_eq_true rfl) (.cons (.str _ (by decide)) (.cons (.int _) .nil)))
    · obtain ⟨dx', t', hp', ht'⟩ := C'
      walk_at "rd"
      refine ⟨o, CC K, dx', _, .ref t', rfl, hp', cl, nn, rfl, ?_⟩
      walk_at "rd"
      intro q nq
      refine k n0 n1 q _ (s1.trans (same_new nq)) (.tup (.inl upd_same) (Nat.le_of_ble_eq_true rfl) (.cons (.str _ (by decide)) (.cons (ht'.mono (same_new nq)) .nil)))
  | false =>
    walk_at "rd"
    refine ⟨p, dx, _, rfl, hp, (fun u ru => by obtain ⟨t, rfl⟩ := ru; rfl), ?_⟩
    refine ⟨p, n, rs, rfl, C, few, fun bad d H' s1 hd => ?_, fun n0 n1 o H' s1 no C' => ?_⟩
    · refine ⟨true, T.c_BadNumber_ElseputError, fun _ a na => ?_, fun z => nomatch z⟩
      walk_at "rd"
      refine ⟨He.ga K "BadNumber", .ref (He.ga K "BadNumber"), .ref (He.ga K "BadNumber"), true, rfl, T.o_BadNumber.e, rfl, .own _, T.k_BadNumber_BadNumber, .inr ⟨d, _, rfl, hd⟩, ?_⟩
      walk_at "rd"
      refine ⟨He.ga K "BadNumber", .ty "ValueError", .type "ValueError", true, rfl, T.o_BadNumber.e, rfl, .ty _, T.k_BadNumber_ValueError, .inr ⟨d, _, rfl, hd⟩, ?_⟩
      walk_at "rd"
      refine ⟨He.ga K "BadNumber", .ref (He.ga K "TooLarge"), .ref (He.ga K "TooLarge"), false, rfl, T.o_BadNumber.e, rfl, .own _, T.k_BadNumber_TooLarge, .inr ⟨d, _, rfl, hd⟩, ?_⟩
      walk_at "rd"
      refine ⟨d, _, .int n, rfl, hd, rfl, ?_⟩
      walk_at "rd"
      intro q nq
      refine kE bad q _ (s1.trans (same_new nq)) (.tup (.inl upd_same) (Nat.le_of_ble_eq_true rfl) (.cons (.str _ (by decide)) (.cons (.int _) .nil)))
    · obtain ⟨dx', t', hp', ht'⟩ := C'
      walk_at "rd"
      refine ⟨o, CC K, dx', _, .ref t', rfl, hp', cl, nn, rfl, ?_⟩
      walk_at "rd"
      intro q nq
      refine k n0 n1 q _ (s1.trans (same_new nq)) (.tup (.inl upd_same) (Nat.le_of_ble_eq_true rfl) (.cons (.str _ (by decide)) (.cons (ht'.mono (same_new nq)) .nil)))
end
end K13
namespace K13
open PySem PySem.Spec PyProof.Rows L2 TK
def sp_lrep : Sp := fun vs H Q _ => ∃ (l : Addr) (n : Int) (us : List V) (rs : List R3), vs = [.ref l, .int n] ∧ H l = some (.lst us) ∧ Rows H us rs ∧ rs.length ≤ 3 ∧ 0 ≤ n ∧ n ≤ 1000 ∧
  ∀ q us' H', Same H H' → H q = none → H' q = some (.lst us') → Rows H' us' (repR rs n) → Q (.ref q) H'
def sp_after : Sp := fun vs H Q _ => ∃ (l c : Addr) (n : Int) (us : List V) (rs : List R3) (kvs : List (Str × Int)), vs = [.ref l, .int n, .ref c] ∧ H l = some (.lst us) ∧ Rows H us rs ∧ rs.length ≤ 3 ∧ (rs.map R3.f).Nodup ∧ 0 ≤ n ∧ n ≤ 1000 ∧
  H c = some (.dK (kvs.map dkv)) ∧ (kvs.map (·.1)).Nodup ∧ (∀ r ∈ rs, r.f ∈ kvs.map (·.1)) ∧ kvs.length ≤ 1000 ∧
  ∀ q H', Same H H' → H q = none → H' q = some (.dK ((chgK (repR rs n) kvs).map dkv)) → Q (.ref q) H'
section
variable {P : Program} {w : World} {K : PySem.W.Frag} {mg : Str → Option Value} {base : Heap}
theorem ok_lrep (T : Tx K mg) : FnOk P w K mg base CX0 4 (He.fAd K at_law_repeated) (fdOf K at_law_repeated) ["rows", "times"] sp_lrep := by
  refine T.F_law_repeated.ok sc_law_repeated (fun vs H Q E h => ?_) (fun cdv A outer s H vs Q E hr h => ?_)
  · obtain ⟨_, _, _, _, rfl, _⟩ := h
    rfl
  obtain ⟨l, n, us, rs, rfl, hl, ru, few, n0, n1, k⟩ := h
  have lu := ru.len
  refine ⟨_, PSs.nox (pss_cons (ps_set (i := 2) sc_law_repeated.nd rfl (by first | exact .inl rfl | exact .inr rfl) (pe_lst pa_nil))
    (pss_cons (ps_for PassesOwn.never rfl (pi_list (pv 0)) (pg_name (i := 3) sc_law_repeated.nd rfl (by first | exact .inl rfl | exact .inr rfl))
     (pss_one (ps_if (PW.pt (pw_and (pt_cmpR op_eqA (pe_ix ix_A (pv 3) pe_int (fun _ _ => rfl)) pe_str (nomark _)) (pw_and1 (pt_cmpR op_gt (pv 1) pe_int (nomark _)))))
      (pss_one (ps_expr (pe_bm PySem.F.plainAttrs_list PySem.F.slot_list_append PySem.F.type_list_append mt_append (pv 2) (pa_cons (pe_tup (pa_cons (pe_ix ix_A (pv 3) pe_int (fun _ _ => rfl)) (pa_cons pe_str (pa_cons (pe_op op_mulA (pe_ix ix_A (pv 3) pe_int (fun _ _ => rfl)) (pv 1)) pa_nil)))) pa_nil))))
      (pss_one (ps_if (pt_cmpR op_gt (pv 1) pe_int (nomark _))
       (pss_one (ps_expr (pe_bm PySem.F.plainAttrs_list PySem.F.slot_list_append PySem.F.type_list_append mt_append (pv 2) (pa_cons (pv 3) pa_nil))))
       pss_nil)))))
    (pss_one (ps_ret (pv 2))))), ?_⟩
  dsimp only [cxOf, Cx.nox, Cx.wish, L2.start, List.map, List.length, List.replicate, List.append]
  walk_at "rd"
  intro D nD
  have hl2 := same_new (o := .lst []) nD _ _ hl
  walk_at "rd"
  refine for_list (xs := us) (fun i σ H' => Here (∃ o ws, σ = [some (.ref l), some (.int n), some (.ref D), o] ∧ Same H H' ∧ H' D = some (.lst ws) ∧ Rows H' ws (repR (rs.take i) n))) (.mk ⟨none, [], rfl, same_new nD, upd_same, (by unfold repR; split <;> trivial)⟩) (fun i σ H' _ y => ?_) (fun i v σ H' e y => ?_) (fun σ H' y => ?_)
  · obtain ⟨_, _, _, s3, _⟩ := y.out
    exact SqL.of (s3 _ _ hl)
  · obtain ⟨o, ws, rfl, s1, hD, rw0⟩ := y.out
    obtain ⟨r, e1, a, rfl, ha, hz⟩ := ru.at e
    obtain ⟨dd, hdd⟩ : ∃ dd, r.deed = dd := ⟨_, rfl⟩
    have ha1 : SqT K H' a [.str r.f, .str dd, .int r.n] := by rw [← hdd]; exact .inl (rd_same s1 ha)
    have i0 : atI ([.str r.f, .str dd, .int r.n] : List V) 0 = some (.str r.f) := atI_nat (j := 0) rfl
    have i1 : atI ([.str r.f, .str dd, .int r.n] : List V) 1 = some (.str dd) := atI_nat (j := 1) rfl
    have i2 : atI ([.str r.f, .str dd, .int r.n] : List V) 2 = some (.int r.n) := atI_nat (j := 2) rfl
    have hdec : decide (V.str dd = V.str "add") = r.d := by
      rw [← hdd]
      unfold R3.deed
      cases r.d <;> decide +kernel
    have hi := (List.getElem?_eq_some_iff.mp e1).1
    have lw : ws.length < sizeLine := by
      have h1 := rw0.len
      have h2 := rep_len (rs.take i) n
      rw [List.length_take] at h2
      rw [sizeLine_eq]
      omega
    by_cases z : n = 0
    · have es : ∀ j, repR (rs.take j) n = [] := fun j => by rw [repR, if_pos z]
      have fin : Here (∃ o' ws', ([some (.ref l), some (.int n), some (.ref D), some (.ref a)] : L2.St) = [some (.ref l), some (.int n), some (.ref D), o'] ∧ Same H H' ∧ H' D = some (.lst ws') ∧ Rows H' ws' (repR (rs.take (i + 1)) n)) :=
        .mk ⟨_, ws, rfl, s1, hD, by rw [es] at rw0 ⊢; exact rw0⟩
      have c1 : decide ((0 : Int) < n) = false := decide_eq_false (by omega)
      walk_at "rd"
      rw [hdec]
      cases hrd : r.d with
      | true =>
        refine iteT ?_
        walk_at "rd"
        rw [c1]
        refine iteF ?_
        walk_at "rd"
        rw [c1]
        exact iteF fin
      | false =>
        refine iteF ?_
        walk_at "rd"
        rw [c1]
        exact iteF fin
    · have c1 : decide ((0 : Int) < n) = true := decide_eq_true (by omega)
      have es : repR (rs.take (i + 1)) n = repR (rs.take i) n ++ [if r.d = true then ⟨r.f, true, r.n * n⟩ else r] := by
        rw [repR, repR, if_neg z, if_neg z, List.take_succ, e1, List.map_append]
        rfl
      have fin : ∀ (q : Addr) (r' : R3), H' q = none → r'.f = r.f → repR (rs.take (i + 1)) n = repR (rs.take i) n ++ [r'] → Here (∃ o' ws', ([some (.ref l), some (.int n), some (.ref D), some (.ref a)] : L2.St) = [some (.ref l), some (.int n), some (.ref D), o'] ∧
          Same H (upd (upd H' q (.tup (rowV r'))) D (.lst (ws ++ [.ref q]))) ∧ upd (upd H' q (.tup (rowV r'))) D (.lst (ws ++ [.ref q])) D = some (.lst ws') ∧ Rows (upd (upd H' q (.tup (rowV r'))) D (.lst (ws ++ [.ref q]))) ws' (repR (rs.take (i + 1)) n)) := fun q r' nq hf he => by
        have s2 := same_new (o := .tup (rowV r')) nq
        have hD2 := s2 _ _ hD
        refine .mk ⟨_, _, rfl, fun b o z => by rw [upd_ne (ne_of_none z nD)]; exact s2 _ _ (s1 _ _ z), upd_same, ?_⟩
        rw [he]
        exact Rows.snoc (RowAt.put ⟨q, rfl, .inl upd_same, hf ▸ hz⟩ hD2) (Rows.imp (fun v r h => (h.keep s2).put hD2) rw0)
      walk_at "rd"
      rw [hdec]
      cases hrd : r.d with
      | true =>
        rw [hrd, if_pos rfl] at es
        refine iteT ?_
        walk_at "rd"
        rw [c1]
        refine iteT ?_
        walk_at "rd"
        refine ⟨.inl ⟨rfl, _, SqL.of hD⟩, ?_⟩
        walk_at "rd"
        refine ⟨.inr ⟨by omega, by omega⟩, ?_⟩
        walk_at "rd"
        intro q nq
        refine ⟨D, _, _, rfl, rfl, same_new nq _ _ hD, by first | exact lw | (rw [sizeLine_eq] at lw ⊢; omega), ?_⟩
        exact fin q ⟨r.f, true, r.n * n⟩ nq rfl es
      | false =>
        rw [hrd, if_neg (by decide)] at es
        refine iteF ?_
        walk_at "rd"
        rw [c1]
        refine iteT ?_
        walk_at "rd"
        refine ⟨.inl ⟨rfl, _, SqL.of hD⟩, ?_⟩
        walk_at "rd"
        refine ⟨D, _, _, rfl, rfl, hD, by first | exact lw | (rw [sizeLine_eq] at lw ⊢; omega), ?_⟩
        exact .mk ⟨_, _, rfl, fun b o z => by rw [upd_ne (ne_of_none z nD)]; exact s1 _ _ z, upd_same, es ▸ Rows.snoc (RowAt.put ⟨a, rfl, rd_same s1 ha, hz⟩ hD) (rw0.put hD)⟩
  · obtain ⟨o, ws, rfl, s1, hD, rw0⟩ := y.out
    rw [lu, List.take_length] at rw0
    walk_at "rd"
    exact k D ws H' s1 nD hD rw0
theorem ok_after (T : Tx K mg) : FnOk P w K mg base CX0 5 (He.fAd K at_law_after) (fdOf K at_law_after) ["rows", "times", "content"] sp_after := by
  have G_law_repeated := ok_lrep (P := P) (w := w) (base := base) T
  have G_law_changed := ok_changed (P := P) (w := w) (base := base) T
  refine T.F_law_after.ok sc_law_after (fun vs H Q E h => ?_) (fun cdv A outer s H vs Q E hr h => ?_)
  · obtain ⟨_, _, _, _, _, _, rfl, _⟩ := h
    rfl
  obtain ⟨l, c, n, us, rs, kvs, rfl, hl, ru, few, nd, n0, n1, hc, ndk, inn, fewk, k⟩ := h
  refine ⟨_, PSs.nox (pss_cons (ps_if (pt_cmpR op_gt (pv 1) pe_int (nomark _))
     (pss_one (ps_ret (pe_call G_law_changed (hr.mono (by first | decide | omega)) (by rfl) T.m_law_changed T.F_law_changed.kp T.b_law_changed .nil pass0 (pa_cons (pe_call G_law_repeated (hr.mono (by first | decide | omega)) (by rfl) T.m_law_repeated T.F_law_repeated.kp T.b_law_repeated .nil pass0 (pa_cons (pv 0) (pa_cons (pv 1) pa_nil))) (pa_cons (pv 2) pa_nil)))))
     pss_nil)
    (pss_cons (ps_set (i := 3) sc_law_after.nd rfl (by first | exact .inl rfl | exact .inr rfl) (pe_callTy call_dictD (by rfl) T.z_dict (by decide +kernel) (pa_cons (pv 2) pa_nil)))
    (pss_cons (ps_for PassesOwn.never rfl (pi_range1 rfl T.z_range (pa_cons (pv 1) pa_nil)) (pg_name (i := 4) sc_law_after.nd rfl (by first | exact .inl rfl | exact .inr rfl))
     (pss_one (ps_set (i := 3) sc_law_after.nd rfl (by first | exact .inl rfl | exact .inr rfl) (pe_call G_law_changed (hr.mono (by first | decide | omega)) (by rfl) T.m_law_changed T.F_law_changed.kp T.b_law_changed .nil pass0 (pa_cons (pv 0) (pa_cons (pv 3) pa_nil))))))
    (pss_one (ps_ret (pv 3)))))), ?_⟩
  dsimp only [cxOf, Cx.nox, Cx.wish, L2.start, List.map, List.length, List.replicate, List.append]
  walk_at "rd"
  refine ite2 (fun e => ?_) (fun e => ?_)
  · walk_at "rd"
    refine ⟨l, n, us, rs, rfl, hl, ru, few, n0, n1, fun q us' H1 s1 nq hq rq => ?_⟩
    walk_at "rd"
    refine ⟨q, c, us', _, kvs, rfl, hq, rq, s1 _ _ hc, ndk, fun r m => ?_, Nat.le_trans (rep_len rs n) (by omega), fewk, fun q2 H2 s2 nq2 hq2 => ?_⟩
    · obtain ⟨x, hx, e⟩ := repR_in m
      exact e ▸ inn x hx
    · walk_at "rd"
      exact k q2 H2 (s1.trans s2) (s1.free nq2) hq2
  · have e : ¬ 6 < n := fun z => e (decide_eq_true z)
    walk_at "rd"
    refine ⟨c, _, rfl, .inl hc, fun q nq => ?_⟩
    have s1 := same_new (o := .dK (kvs.map dkv)) nq
    have hq : upd H q (.dK (kvs.map dkv)) q = some (.dK ((chgK (repR rs (0 : Nat)) kvs).map dkv)) := by
      have e0 : repR rs ((0 : Nat) : Int) = [] := by unfold repR; exact if_pos rfl
      rw [upd_same, e0]
      rfl
    generalize upd H q (.dK (kvs.map dkv)) = H1 at s1 hq ⊢
    walk_at "rd"
    refine for_range (fun i σ H' => Here (∃ q o, σ = [some (.ref l), some (.int n), some (.ref c), some (.ref q), o] ∧ Same H H' ∧ H q = none ∧ H' q = some (.dK ((chgK (repR rs i) kvs).map dkv)))) (.mk ⟨q, none, rfl, s1, nq, hq⟩) (fun i σ H' hi y => ?_) (fun σ H' y => ?_)
    · obtain ⟨q, o, rfl, s2, nq, hq⟩ := y.out
      walk_at "rd"
      refine ⟨l, q, us, rs, _, rfl, s2 _ _ hl, ru.keep s2, hq, by rw [chgK_keys]; exact ndk, fun r m => by rw [chgK_keys]; exact inn r m, by omega, ?_, fun q2 H2 s3 nq2 hq2 => ?_⟩
      · have := congrArg List.length (chgK_keys (repR rs i) kvs)
        rw [List.length_map, List.length_map] at this
        omega
      · walk_at "rd"
        rw [rep_step nd] at hq2
        exact .mk ⟨_, _, rfl, s2.trans s3, s2.free nq2, hq2⟩
    · obtain ⟨q, o, rfl, s2, nq, hq⟩ := y.out
      walk_at "rd"
      have en : ((n.toNat : Nat) : Int) = n := by omega
      exact k q H' s2 nq (by rw [← en]; exact hq)
end
end K13
namespace K13
open PySem PySem.Spec PyProof.Rows L2 TK
theorem do_fits (rs : List R3) (n : Int) : Fits 4 (doD rs n) := by
  intro d hd
  rcases List.mem_cons.mp hd with rfl | hd
  · trivial
  · rw [List.mem_singleton.mp hd]
    intro e he
    obtain ⟨r, _, rfl⟩ := List.mem_map.mp he
    intro f hf
    simp only [List.mem_cons, List.not_mem_nil, or_false] at hf
    rcases hf with rfl | rfl | rfl <;> trivial
theorem dic_fits (kvs : List (Str × Int)) : Fits 4 (.dic kvs) := fun _ _ => trivial
def sp_reps (K : PySem.W.Frag) : Sp := fun vs H Q _ => ∃ (p l c : Addr) (n : Int) (us : List V) (rs : List R3) (kvs : List (Str × Int)), vs = [.ref p, .ref l, .int n, .ref c] ∧ Chg K H p rs ∧ H l = some (.lst us) ∧ Rows H us rs ∧ rs.length ≤ 3 ∧ (rs.map R3.f).Nodup ∧ 0 ≤ n ∧ n ≤ 1000 ∧
  H c = some (.dK (kvs.map dkv)) ∧ (kvs.map (·.1)).Nodup ∧ (∀ r ∈ rs, r.f ∈ kvs.map (·.1)) ∧ kvs.length ≤ 1000 ∧ (∀ r ∈ kvs, r.1.length ≤ sizeLine) ∧ ∀ H', Same H H' → Q (.bl true) H'
section
variable {w : World} {K : PySem.W.Frag} {mg : Str → Option Value} {base : Heap}
theorem ok_reps (T : Tx K mg) : FnOk PP w K mg base CX0 9 (He.fAd K at_law_repeats) (fdOf K at_law_repeats) ["made", "rows", "times", "content"] (sp_reps K) := by
  have G_mul := ok_mul (w := w) (base := base) T
  have G_rmul := ok_rmul (w := w) (base := base) T
  have G_call := ok_call (P := PP) (w := w) (base := base) T
  have G_law_do := ok_do (w := w) (base := base) T
  have G_law_repeated := ok_lrep (P := PP) (w := w) (base := base) T
  have G_law_after := ok_after (P := PP) (w := w) (base := base) T
  have G_law_same := ok_law_same (P := PP) (w := w) (base := base) T 4
  refine T.F_law_repeats.ok sc_law_repeats (fun vs H Q E h => ?_) (fun cdv A outer s H vs Q E hr h => ?_)
  · obtain ⟨_, _, _, _, _, _, _, rfl, _⟩ := h
    rfl
  obtain ⟨p, l, c, n, us, rs, kvs, rfl, C, hl, ru, few, nd, n0, n1, hc, ndk, inn, fewk, kl, k⟩ := h
  refine ⟨_, PSs.nox (pss_cons (ps_set (i := 4) sc_law_repeats.nd rfl (by first | exact .inl rfl | exact .inr rfl) (pe_tup (pa_cons pe_str (pa_cons (pe_callTy call_tuple_of (by rfl) T.z_tuple (by decide +kernel) (pa_cons (pe_call G_law_repeated (hr.mono (by first | decide | omega)) (by rfl) T.m_law_repeated T.F_law_repeated.kp T.b_law_repeated .nil pass0 (pa_cons (pv 1) (pa_cons (pv 2) pa_nil))) pa_nil)) pa_nil))))
    (pss_cutT (ps_if (PW.pt (pw_or (pt_not (pt_val (pe_call G_law_same (hr.mono (by first | decide | omega)) (by rfl) T.m_law_same T.F_law_same.kp T.b_law_same .nil pass0 (pa_cons (pe_call G_law_do (hr.mono (by first | decide | omega)) (by rfl) T.m_law_do T.F_law_do.kp T.b_law_do .nil pass0 (pa_cons (pv 0) (pa_cons (pv 2) (pa_cons pe_bl pa_nil)))) (pa_cons (pv 4) pa_nil))))) (pw_or1 (pt_not (pt_val (pe_call G_law_same (hr.mono (by first | decide | omega)) (by rfl) T.m_law_same T.F_law_same.kp T.b_law_same .nil pass0 (pa_cons (pe_call G_law_do (hr.mono (by first | decide | omega)) (by rfl) T.m_law_do T.F_law_do.kp T.b_law_do .nil pass0 (pa_cons (pv 0) (pa_cons (pv 2) (pa_cons pe_bl pa_nil)))) (pa_cons (pv 4) pa_nil))))))))
     (pss_one (ps_ret pe_bl))
     pss_nil)
    (pss_cons (ps_set (i := 5) sc_law_repeats.nd rfl (by first | exact .inl rfl | exact .inr rfl) (pe_call G_law_after (hr.mono (by first | decide | omega)) (by rfl) T.m_law_after T.F_law_after.kp T.b_law_after .nil pass0 (pa_cons (pv 1) (pa_cons (pv 2) (pa_cons (pv 3) pa_nil)))))
    (pss_cons (ps_if (pt_not (pt_val (pe_call G_law_same (hr.mono (by first | decide | omega)) (by rfl) T.m_law_same T.F_law_same.kp T.b_law_same .nil pass0 (pa_cons (pe_callS' (E := fun _ => E0) (pe_op (op_ownT (op := .Mult) (T := "int") T.me_Change_mul T.x_mul G_mul (hr.mono (by decide)) T.b_ChangeU_mulU passN) (pv 0) (pv 2)) ⟨of_decide_eq_true T.x_callat, T.x_isfn, T.x_fnin⟩ G_call (hr.mono (by decide)) T.b_ChangeU_callU (fun σ pins => pass0 pins σ) (pa_cons (pe_callTy call_dictD (by rfl) T.z_dict (by decide +kernel) (pa_cons (pv 3) pa_nil)) pa_nil)) (pa_cons (pv 5) pa_nil)))))
     (pss_one (ps_ret pe_bl))
     pss_nil)
    (pss_one (ps_ret (pe_call G_law_same (hr.mono (by first | decide | omega)) (by rfl) T.m_law_same T.F_law_same.kp T.b_law_same .nil pass0 (pa_cons (pe_callS' (E := fun _ => E0) (pe_intL (E := fun _ _ _ _ => False) T.me_Change_mul T.me_Change_rmul T.x_first (of_decide_eq_true T.x_subint) G_rmul (hr.mono (by decide)) T.b_ChangeU_rmulU (fun σ pins => passN pins σ) (pv 2) (pv 0)) ⟨of_decide_eq_true T.x_callat, T.x_isfn, T.x_fnin⟩ G_call (hr.mono (by decide)) T.b_ChangeU_callU (fun σ pins => pass0 pins σ) (pa_cons (pe_callTy call_dictD (by rfl) T.z_dict (by decide +kernel) (pa_cons (pv 3) pa_nil)) pa_nil)) (pa_cons (pv 5) pa_nil))))))))), ?_⟩
  dsimp only [cxOf, Cx.nox, Cx.wish, L2.start, List.map, List.length, List.replicate, List.append]
  walk_at "rd"
  refine ⟨l, n, us, rs, rfl, hl, ru, few, n0, n1, fun q us' H1 s1 nq hq rq => ?_⟩
  walk_at "rd"
  refine ⟨q, _, rfl, .inl ⟨SqL.of hq, fun t nt => ?_⟩⟩
  walk_at "rd"
  intro a na
  have s2 := (s1.trans (same_new (o := .tup us') nt)).trans (same_new (o := .tup [.str "let", .ref t]) na)
  have lu := rq.len
  have lr := rep_len rs n
  have Dd : Is (upd (upd H1 t (.tup us')) a (.tup [.str "let", .ref t])) (.ref a) (doD rs n) := by
    refine .tup (.inl upd_same) (Nat.le_of_ble_eq_true rfl) (.cons (.str _ (by decide)) (.cons (.tup (.inl (by rw [upd_ne (ne_of_none upd_same na)]; exact upd_same)) (by rw [sizeLine_eq]; omega) ?_) .nil))
    exact (Rows.imp (fun _ _ h => h.keep ((same_new nt).trans (same_new na))) rq).is
  generalize upd (upd H1 t (.tup us')) a (.tup [.str "let", .ref t]) = H2 at s2 Dd ⊢
  clear lu rq hq nq nt na s1
  walk_at "rd"
  refine ⟨fun σ H' => Here (σ = [some (.ref p), some (.ref l), some (.int n), some (.ref c), some (.ref a), none] ∧ Same H H'), ?_, fun σ H' y => ?_⟩
  · walk_at "rd"
    have C2 := C.keep s2
    refine ⟨p, n, false, rs, rfl, C2, by omega, fun z => absurd z (by omega), fun _ _ q H3 s3 hq => ?_⟩
    walk_at "rd"
    refine ⟨_, _, _, rfl, hq, Dd.mono s3, do_fits rs n, fun H4 s4 => ?_⟩
    walk_at "rd"
    refine ⟨p, n, true, rs, rfl, C2.keep (s3.trans s4), by omega, fun z => absurd z (by omega), fun _ _ q2 H5 s5 hq2 => ?_⟩
    walk_at "rd"
    refine ⟨_, _, _, rfl, hq2, Dd.mono ((s3.trans s4).trans s5), do_fits rs n, fun H6 s6 => ?_⟩
    walk_at "rd"
    exact .mk ⟨rfl, (((s2.trans s3).trans s4).trans s5).trans s6⟩
  · obtain ⟨rfl, s3⟩ := y.out
    walk_at "rd"
    refine ⟨l, c, n, us, rs, kvs, rfl, s3 _ _ hl, ru.keep s3, few, nd, n0, n1, s3 _ _ hc, ndk, inn, fewk, fun f H3 s4 nf hf => ?_⟩
    have hcl := chgK_keys (repR rs n) kvs
    have ndc : ((chgK (repR rs n) kvs).map (·.1)).Nodup := by rw [hcl]; exact ndk
    have lc : (chgK (repR rs n) kvs).length ≤ 1000 := by
      have := congrArg List.length hcl
      rw [List.length_map, List.length_map] at this
      omega
    have kc : ∀ r ∈ chgK (repR rs n) kvs, r.1.length ≤ sizeLine := fun r m => by
      have : r.1 ∈ (chgK (repR rs n) kvs).map (·.1) := List.mem_map.mpr ⟨r, m, rfl⟩
      rw [hcl] at this
      obtain ⟨x, hx, e⟩ := List.mem_map.mp this
      exact e ▸ kl x hx
    have inr : ∀ r ∈ repR rs n, r.f ∈ kvs.map (·.1) := fun r m => by
      obtain ⟨x, hx, e⟩ := repR_in m
      exact e ▸ inn x hx
    have lr := rep_len rs n
    have De : Is H3 (.ref f) (.dic (chgK (repR rs n) kvs)) := .dic hf ndc kc lc
    have C3 := C.keep (s3.trans s4)
    have hc3 := s4 _ _ (s3 _ _ hc)
    have s34 := s3.trans s4
    clear hl ru hf nf s3 s4 C hc
    walk_at "rd"
    obtain ⟨dx, t, hp, _⟩ := id C3
    refine ⟨p, dx, _, rfl, hp, (fun u ru => by obtain ⟨t, rfl⟩ := ru; rfl), p, n, rs, rfl, C3, by omega, fun z => absurd z (by omega), fun _ _ o H4 s5 no C4 => ?_⟩
    refine ⟨o, rfl, ?_⟩
    have hc4 := s5 _ _ hc3
    walk_at "rd"
    refine ⟨c, _, rfl, .inl hc4, fun q nq => ?_⟩
    have s6 := same_new (o := .dK (kvs.map dkv)) nq
    have C5 := C4.keep s6
    obtain ⟨dy, ty, ho, _⟩ := id C5
    refine ⟨⟨dy, _, ho⟩, o, q, repR rs n, kvs, rfl, C5, upd_same, ndk, inr, by omega, fewk, fun d H5 s7 nd hd => ?_⟩
    have Dx : Is H5 (.ref d) (.dic (chgK (repR rs n) kvs)) := .dic hd ndc kc lc
    have s57 := (s5.trans s6).trans s7
    have De := De.mono s57
    have C3 := C3.keep s57
    have hc3 := s57 _ _ hc3
    have sA := s34.trans s57
    clear hp s57 s34 s5 s6 s7 C4 C5 ho no nd hd hc4 nq
    walk_at "rd"
    refine ⟨_, _, _, rfl, Dx, De, dic_fits _, fun H6 s8 => ?_⟩
    have De := De.mono s8
    have C3 := C3.keep s8
    have hc3 := s8 _ _ hc3
    have sA := sA.trans s8
    walk_at "rd"
    obtain ⟨dx, t, hp, _⟩ := id C3
    refine ⟨n, p, dx, _, rfl, rfl, hp, p, n, rs, rfl, C3, by omega, fun z => absurd z (by omega), fun _ _ o H7 s5 no C4 => ?_⟩
    refine ⟨o, rfl, ?_⟩
    have hc4 := s5 _ _ hc3
    walk_at "rd"
    refine ⟨c, _, rfl, .inl hc4, fun q nq => ?_⟩
    have s6 := same_new (o := .dK (kvs.map dkv)) nq
    have C5 := C4.keep s6
    obtain ⟨dy, ty, ho, _⟩ := id C5
    refine ⟨⟨dy, _, ho⟩, o, q, repR rs n, kvs, rfl, C5, upd_same, ndk, inr, by omega, fewk, fun d H8 s7 nd hd => ?_⟩
    have Dx : Is H8 (.ref d) (.dic (chgK (repR rs n) kvs)) := .dic hd ndc kc lc
    have s57 := (s5.trans s6).trans s7
    have De := De.mono s57
    have sA := sA.trans s57
    clear hp s57 s5 s6 s7 C4 C5 ho no nd hd hc4 nq hc3 C3
    walk_at "rd"
    refine ⟨_, _, _, rfl, Dx, De, dic_fits _, fun H6 s9 => ?_⟩
    walk_at "rd"
    exact k _ (sA.trans s9)
end
end K13
namespace K13
open PySem PySem.Spec PyProof.Rows L2 TK
def sp_law (K : PySem.W.Frag) : Sp := fun vs H Q _ => ∃ (a : Addr) (ns : List Int), vs = [.ref a] ∧ SqL K H a (ns.map V.int) ∧ ns.length ≤ 63 ∧ ∀ H', Q (.bl true) H'
theorem law_pre (K : PySem.W.Frag) (H : Hp) (a : Addr) (ns : List Int) (hl : ns.length ≤ 63) (_ : Only H) (hS : SqL K H a (ns.map V.int)) : sp_law K [.ref a] H (fun v _ => v = .bl true) fun _ _ _ => False := ⟨a, ns, rfl, hS, hl, fun _ => rfl⟩
theorem p39 : (10 : Int) ^ Int.toNat 39 = 1000000000000000000000000000000000000000 := by decide +kernel
theorem ref_fits (n : Int) : Fits 4 (.tup [.str "refused", .int n]) := by
  intro d hd
  simp only [List.mem_cons, List.not_mem_nil, or_false] at hd
  rcases hd with rfl | rfl <;> trivial
theorem rows_fits (rs : List R3) : Fits 4 (.tup (rs.map rowD)) := by
  intro e he
  obtain ⟨r, _, rfl⟩ := List.mem_map.mp he
  intro f hf
  simp only [List.mem_cons, List.not_mem_nil, or_false] at hf
  rcases hf with rfl | rfl | rfl <;> trivial
/-- a new entry -/
theorem put_new {acc : List (Str × Int)} {f : Str} {n : Int} (h : f ∉ acc.map (·.1)) : putK (acc.map dkv) (Sum.inr f : L2.Key) (.int n) = (acc ++ [(f, n)]).map dkv := by
  have h1 : ((acc.map dkv).any fun kv => decide (kv.1 = (Sum.inr f : L2.Key))) = false := by
    rw [Bool.eq_false_iff]
    intro z
    obtain ⟨kv, m, e⟩ := List.any_eq_true.mp z
    obtain ⟨r, hr, rfl⟩ := List.mem_map.mp m
    have e : (Sum.inr r.1 : L2.Key) = Sum.inr f := of_decide_eq_true e
    exact h (List.mem_map.mpr ⟨r, hr, Sum.inr.inj e⟩)
  unfold putK
  rw [h1, if_neg (by decide), List.map_append]
  rfl
section
variable {w : World} {K : PySem.W.Frag} {mg : Str → Option Value} {base : Heap}
theorem ok_law (T : Tx K mg) : FnOk PP w K mg base CX0 10 (He.fAd K at_law) (fdOf K at_law) ["script"] (sp_law K) := by
  have G_law_state := ok_law_state (P := PP) (w := w) (base := base) T
  have G_law_draw := ok_law_draw (P := PP) (w := w) (base := base) T
  have G_law_names := ok_names (P := PP) (w := w) (base := base) T
  have G_law_number := ok_number (P := PP) (w := w) (base := base) T
  have G_law_some_rows := ok_some (P := PP) (w := w) (base := base) T
  have G_law_change := ok_change (P := PP) (w := w) (base := base) T
  have G_law_repeats := ok_reps (w := w) (base := base) T
  have G_law_do := ok_do (w := w) (base := base) T
  have G_law_same := ok_law_same (P := PP) (w := w) (base := base) T 4
  refine T.F_law.ok sc_law (fun vs H Q E h => ?_) (fun cdv A outer s H vs Q E hr h => ?_)
  · obtain ⟨_, _, rfl, _⟩ := h
    rfl
  obtain ⟨a, is, rfl, hS, hl, k⟩ := h
  refine ⟨_, PSs.nox (pss_cons (ps_set (i := 1) sc_law.nd rfl (by first | exact .inl rfl | exact .inr rfl) (pe_call G_law_state (hr.mono (by first | decide | omega)) (by rfl) T.m_law_state T.F_law_state.kp T.b_law_state .nil pass0 (pa_cons (pv 0) pa_nil)))
    (pss_cons (ps_set (i := 2) sc_law.nd rfl (by first | exact .inl rfl | exact .inr rfl) (pe_call G_law_names (hr.mono (by first | decide | omega)) (by rfl) T.m_law_names T.F_law_names.kp T.b_law_names .nil pass0 (pa_cons (pv 1) (pa_cons pe_int pa_nil))))
    (pss_cons (ps_set (i := 3) sc_law.nd rfl (by first | exact .inl rfl | exact .inr rfl) pe_dnewK)
    (pss_cutT (ps_for PassesOwn.never rfl (pi_list (pv 2)) (pg_name (i := 4) sc_law.nd rfl (by first | exact .inl rfl | exact .inr rfl))
     (pss_one (ps_dput (hu_of hr) (pv 3) (pv 4) (pe_call G_law_number (hr.mono (by first | decide | omega)) (by rfl) T.m_law_number T.F_law_number.kp T.b_law_number .nil pass0 (pa_cons (pv 1) pa_nil)) rfl)))
    (pss_cons (ps_set (i := 5) sc_law.nd rfl (by first | exact .inl rfl | exact .inr rfl) (pe_call G_law_some_rows (hr.mono (by first | decide | omega)) (by rfl) T.m_law_some_rows T.F_law_some_rows.kp T.b_law_some_rows .nil pass0 (pa_cons (pv 1) (pa_cons (pv 2) pa_nil))))
    (pss_cons (ps_set (i := 6) sc_law.nd rfl (by first | exact .inl rfl | exact .inr rfl) (pe_lst (pa_cons pe_int (pa_cons pe_int (pa_cons pe_int (pa_cons pe_int (pa_cons pe_int (pa_cons pe_int (pa_cons pe_int (pa_cons pe_int (pa_cons pe_int (pa_cons (pe_call G_law_draw (hr.mono (by first | decide | omega)) (by rfl) T.m_law_draw T.F_law_draw.kp T.b_law_draw .nil pass0 (pa_cons (pv 1) (pa_cons pe_int pa_nil))) pa_nil))))))))))))
    (pss_cons (ps_set (i := 7) sc_law.nd rfl (by first | exact .inl rfl | exact .inr rfl) (pe_lst (pa_cons (pe_un un_neg pe_int) (pa_cons pe_int (pa_cons (pe_op op_sub (pe_un un_neg pe_int) (pe_call G_law_draw (hr.mono (by first | decide | omega)) (by rfl) T.m_law_draw T.F_law_draw.kp T.b_law_draw .nil pass0 (pa_cons (pv 1) (pa_cons (pe_op op_pow pe_int pe_int) pa_nil)))) (pa_cons (pe_op op_addA pe_int (pe_call G_law_draw (hr.mono (by first | decide | omega)) (by rfl) T.m_law_draw T.F_law_draw.kp T.b_law_draw .nil pass0 (pa_cons (pv 1) (pa_cons (pe_op op_pow pe_int pe_int) pa_nil)))) pa_nil))))))
    (pss_cons (ps_for PassesOwn.never rfl (pi_list (pe_lst (pa_cons (pv 5) (pa_cons (pe_lst pa_nil) pa_nil)))) (pg_name (i := 8) sc_law.nd rfl (by first | exact .inl rfl | exact .inr rfl))
     (pss_cons (ps_set (i := 9) sc_law.nd rfl (by first | exact .inl rfl | exact .inr rfl) (pe_call G_law_change (hr.mono (by first | decide | omega)) (by rfl) T.m_law_change T.F_law_change.kp T.b_law_change .nil pass0 (pa_cons (pv 8) pa_nil)))
     (pss_cutT (ps_for PassesOwn.never rfl (pi_list (pv 6)) (pg_name (i := 10) sc_law.nd rfl (by first | exact .inl rfl | exact .inr rfl))
      (pss_one (ps_if (pt_not (pt_val (pe_call G_law_repeats (hr.mono (by first | decide | omega)) (by rfl) T.m_law_repeats T.F_law_repeats.kp T.b_law_repeats .nil pass0 (pa_cons (pv 9) (pa_cons (pv 8) (pa_cons (pv 10) (pa_cons (pv 3) pa_nil)))))))
       (pss_one (ps_ret pe_bl))
       pss_nil)))
     (pss_cutT (ps_for PassesOwn.never rfl (pi_list (pv 7)) (pg_name (i := 10) sc_law.nd rfl (by first | exact .inl rfl | exact .inr rfl))
      (pss_cons (ps_if (pt_not (pt_val (pe_call G_law_same (hr.mono (by first | decide | omega)) (by rfl) T.m_law_same T.F_law_same.kp T.b_law_same .nil pass0 (pa_cons (pe_call G_law_do (hr.mono (by first | decide | omega)) (by rfl) T.m_law_do T.F_law_do.kp T.b_law_do .nil pass0 (pa_cons (pv 9) (pa_cons (pv 10) (pa_cons pe_bl pa_nil)))) (pa_cons (pe_tup (pa_cons pe_str (pa_cons (pv 10) pa_nil))) pa_nil)))))
       (pss_one (ps_ret pe_bl))
       pss_nil)
      (pss_one (ps_if (pt_not (pt_val (pe_call G_law_same (hr.mono (by first | decide | omega)) (by rfl) T.m_law_same T.F_law_same.kp T.b_law_same .nil pass0 (pa_cons (pe_call G_law_do (hr.mono (by first | decide | omega)) (by rfl) T.m_law_do T.F_law_do.kp T.b_law_do .nil pass0 (pa_cons (pv 9) (pa_cons (pv 10) (pa_cons pe_bl pa_nil)))) (pa_cons (pe_tup (pa_cons pe_str (pa_cons (pv 10) pa_nil))) pa_nil)))))
       (pss_one (ps_ret pe_bl))
       pss_nil))))
     (pss_one (ps_if (pt_not (pt_val (pe_call G_law_same (hr.mono (by first | decide | omega)) (by rfl) T.m_law_same T.F_law_same.kp T.b_law_same .nil pass0 (pa_cons (pe_fld (pv 9) (by rfl)) (pa_cons (pe_callTy call_tuple_of (by rfl) T.z_tuple (by decide +kernel) (pa_cons (pv 8) pa_nil)) pa_nil)))))
      (pss_one (ps_ret pe_bl))
      pss_nil))))))
    (pss_one (ps_ret pe_bl)))))))))), ?_⟩
  have cl := T.cl_Change
  have nn := T.n_Change_assignments
  dsimp only [cxOf, Cx.nox, Cx.wish, L2.start, List.map, List.length, List.replicate, List.append]
  walk_at "rd"
  intro st H1 s1 hst
  walk_at "rd"
  intro nm H2 ns s2 nn2 hnm l4 nd vn
  have hst := hst.mono s2
  intro c nc
  have s3 := same_new (o := .dK []) nc
  obtain ⟨sq, sn, sz, hq1, hq2⟩ := id hst
  have nq1 := ne_of_none hq1 nc
  have nq2 := ne_of_none hq2 nc
  have nmc := ne_of_none hnm nc
  have hst := hst.mono s3
  have hnm3 := s3 _ _ hnm
  have hc0 : upd H2 c (.dK []) c = some (.dK (([] : List (Str × Int)).map dkv)) := upd_same
  generalize upd H2 c (.dK []) = H3 at s3 hst hnm3 hc0 ⊢
  have hstp : ∀ H', (∀ b o, b ≠ c → H3 b = some o → H' b = some o) → StAt H' st := fun H' s => ⟨sq, sn, sz, s _ _ nq1 (s3 _ _ hq1), s _ _ nq2 (s3 _ _ hq2)⟩
  clear hq1 hq2 s2 s1 hS
  refine ⟨fun σ H' => Here (∃ (o : Option V) (kvs : List (Str × Int)), σ = [some (.ref a), some (.ref st), some (.ref nm), some (.ref c), o, none, none, none, none, none, none] ∧ StAt H' st ∧ H' nm = some (.lst (ns.map V.str)) ∧ H' c = some (.dK (kvs.map dkv)) ∧ kvs.map (·.1) = ns), ?_, fun σ H4 y => ?_⟩
  · walk_at "rd"
    refine for_list (xs := ns.map V.str) (fun i σ H' => Here (∃ (o : Option V) (kvs : List (Str × Int)), σ = [some (.ref a), some (.ref st), some (.ref nm), some (.ref c), o, none, none, none, none, none, none] ∧ (∀ b o, b ≠ c → H3 b = some o → H' b = some o) ∧ H' c = some (.dK (kvs.map dkv)) ∧ kvs.map (·.1) = ns.take i))
      (.mk ⟨none, [], rfl, fun _ _ _ e => e, hc0, rfl⟩) (fun i σ H' _ y => ?_) (fun i v σ H' e y => ?_) (fun σ H' y => ?_)
    · obtain ⟨_, _, _, s5, _⟩ := y.out
      exact SqL.of (s5 _ _ nmc hnm3)
    · obtain ⟨o, kvs, rfl, s5, hc, ek⟩ := y.out
      rw [List.getElem?_map] at e
      obtain ⟨z, e2, rfl⟩ := Option.map_eq_some_iff.mp e
      have hst := hstp H' s5
      clear hstp
      have hi := (List.getElem?_eq_some_iff.mp e2).1
      have lk0 := congrArg List.length ek
      rw [List.length_map, List.length_take] at lk0
      have nin : z ∉ kvs.map (·.1) := fun m => by
        rw [ek] at m
        obtain ⟨j, ej⟩ := List.mem_iff_getElem?.mp m
        have lj : j < i := by
          have := (List.getElem?_eq_some_iff.mp ej).1
          rw [List.length_take] at this
          omega
        rw [List.getElem?_take_of_lt lj] at ej
        obtain ⟨hj, e3⟩ := List.getElem?_eq_some_iff.mp ej
        obtain ⟨hi, e4⟩ := List.getElem?_eq_some_iff.mp e2
        exact List.pairwise_iff_getElem.mp nd j i hj hi lj (e3.trans e4.symm)
      refine ⟨_, rfl, st, rfl, hst, fun n H5 s6 n1 n2 => ?_⟩
      have hc5 := s6 _ _ hc
      refine ⟨_, rfl, _, rfl, c, _, rfl, .inl ⟨_, Sum.inr z, hc5, rfl, by rw [List.length_map, sizeLine_eq]; omega, rfl⟩, ?_⟩
      refine .mk ⟨_, kvs ++ [(z, n)], rfl, fun b o nb e => by rw [upd_ne nb]; exact s6 _ _ (s5 _ _ nb e), by rw [upd_same, put_new nin], ?_⟩
      rw [List.map_append, ek, List.take_succ, e2]
      rfl
    · obtain ⟨o, kvs, rfl, s5, hc, ek⟩ := y.out
      rw [List.length_map, List.take_length] at ek
      exact .mk ⟨_, _, rfl, hstp _ s5, s5 _ _ nmc hnm3, hc, ek⟩
  obtain ⟨o4, kvs, rfl, hst, hnm, hc, ek⟩ := y.out
  clear hstp hc0 hnm3 s3 nc nmc nq1 nq2
  walk_at "rd"
  refine ⟨st, nm, ns, rfl, hst, hnm, l4, nd, vn, fun sm us0 rs0 H5 s5 nsm hsm ru0 G0 => ?_⟩
  have hst := hst.mono s5
  have hc := s5 _ _ hc
  clear s5 nsm hnm
  walk_at "rd"
  intro d H6 s6 d0 d1
  have hst := hst.mono s6
  have hc := s6 _ _ hc
  have hsm := s6 _ _ hsm
  have ru0 := ru0.keep s6
  clear s6
  walk_at "rd"
  intro lt nlt
  have s7 := same_new (o := .lst ([0, 1, 2, 3, 4, 5, 6, 999, 1000, d].map V.int)) nlt
  have hlt : upd H6 lt (.lst ([0, 1, 2, 3, 4, 5, 6, 999, 1000, d].map V.int)) lt = some (.lst ([0, 1, 2, 3, 4, 5, 6, 999, 1000, d].map V.int)) := upd_same
  have hst := hst.mono s7
  have hc := s7 _ _ hc
  have hsm := s7 _ _ hsm
  have ru0 := ru0.keep s7
  have lets : ∀ n ∈ [0, 1, 2, 3, 4, 5, 6, 999, 1000, d], 0 ≤ n ∧ n ≤ 1000 := fun n m => by
    simp only [List.mem_cons, List.not_mem_nil, or_false] at m
    omega
  change gName _ _ _ (upd H6 lt (.lst ([0, 1, 2, 3, 4, 5, 6, 999, 1000, d].map V.int))) _
  generalize upd H6 lt (.lst ([0, 1, 2, 3, 4, 5, 6, 999, 1000, d].map V.int)) = H7 at hlt hst hc hsm ru0 ⊢
  generalize ([0, 1, 2, 3, 4, 5, 6, 999, 1000, d] : List Int) = L at hlt lets
  clear nlt s7 d0 d1
  walk_at "rd"
  refine ⟨lt_big40 (by rw [p39]; decide +kernel), fun e1 H8 s8 a0 a1 => ?_⟩
  have hst := hst.mono s8
  walk_at "rd"
  refine ⟨lt_big40 (by rw [p39]; decide +kernel), fun e2 H9 s9 b0 b1 => ?_⟩
  have s10 := s8.trans s9
  clear s8 s9 hst a1 b1
  walk_at "rd"
  intro bd nbd
  have s11 := s10.trans (same_new (o := .lst ([-1, 1001, -2 - e1, 1002 + e2].map V.int)) nbd)
  have hbd : upd H9 bd (.lst ([-1, 1001, -2 - e1, 1002 + e2].map V.int)) bd = some (.lst ([-1, 1001, -2 - e1, 1002 + e2].map V.int)) := upd_same
  have bads : ∀ n ∈ [-1, 1001, -2 - e1, 1002 + e2], n < 0 ∨ 1000 < n := fun n m => by
    simp only [List.mem_cons, List.not_mem_nil, or_false] at m
    omega
  change gName _ _ _ (upd H9 bd (.lst ([-1, 1001, -2 - e1, 1002 + e2].map V.int))) _
  generalize upd H9 bd (.lst ([-1, 1001, -2 - e1, 1002 + e2].map V.int)) = H10 at hbd s11 ⊢
  generalize ([-1, 1001, -2 - e1, 1002 + e2] : List Int) = B at hbd bads
  have hc := s11 _ _ hc
  have hsm := s11 _ _ hsm
  have ru0 := ru0.keep s11
  have hlt := s11 _ _ hlt
  clear s10 s11 nbd a0 b0
  walk_at "rd"
  intro em nem
  have s12 := same_new (o := .lst []) nem
  have hem : upd H10 em (.lst []) em = some (.lst []) := upd_same
  generalize upd H10 em (.lst []) = H11 at s12 hem ⊢
  walk_at "rd"
  intro ro nro
  have s13 := s12.trans (same_new (o := .lst [.ref sm, .ref em]) nro)
  have hro : upd H11 ro (.lst [.ref sm, .ref em]) ro = some (.lst [.ref sm, .ref em]) := upd_same
  have hem := same_new (o := .lst [.ref sm, .ref em]) nro _ _ hem
  generalize upd H11 ro (.lst [.ref sm, .ref em]) = H12 at s13 hro hem ⊢
  have hc := s13 _ _ hc
  have hsm := s13 _ _ hsm
  have ru0 := ru0.keep s13
  have hlt := s13 _ _ hlt
  have hbd := s13 _ _ hbd
  clear s12 s13 nro nem
  have ndk : (kvs.map (·.1)).Nodup := by rw [ek]; exact nd
  have fewk : kvs.length ≤ 1000 := by
    have := congrArg List.length ek
    rw [List.length_map] at this
    omega
  have kl : ∀ r ∈ kvs, r.1.length ≤ sizeLine := fun r m => by
    have : r.1 ∈ kvs.map (·.1) := List.mem_map.mpr ⟨r, m, rfl⟩
    rw [ek] at this
    have := isName_len (vn _ this)
    rw [sizeLine_eq]
    omega
  have item : ∀ (i : Nat) (v : V), ([.ref sm, .ref em] : List V)[i]? = some v → ∃ (l : Addr) (us : List V) (rs : List R3), v = V.ref l ∧ H12 l = some (.lst us) ∧ Rows H12 us rs ∧ Good ns rs := by
    intro i v e
    rcases i with _ | _ | i
    · cases e
      exact ⟨sm, us0, rs0, rfl, hsm, ru0, G0⟩
    · cases e
      exact ⟨em, [], [], rfl, hem, trivial, ⟨Nat.zero_le _, .nil, (fun _ m => by cases m), (fun _ m => by cases m), (fun _ m => by cases m)⟩⟩
    · simp at e
  generalize ([.ref sm, .ref em] : List V) = xs at hro item ⊢
  refine ⟨ro, rfl, ⟨_, SqL.of hro⟩, ?_⟩
  refine for_list (xs := xs) (fun i σ H' => Here (∃ o8 o9 o10, σ = [some (.ref a), some (.ref st), some (.ref nm), some (.ref c), o4, some (.ref sm), some (.ref lt), some (.ref bd), o8, o9, o10] ∧ Same H12 H')) (.mk ⟨_, _, _, rfl, Same.refl _⟩) (fun i σ H' _ y => ?_) (fun i v σ H' e y => ?_) (fun σ H' y => ?_)
  · obtain ⟨_, _, _, _, s1⟩ := y.out
    exact SqL.of (s1 _ _ hro)
  · obtain ⟨o8, o9, o10, rfl, s1⟩ := y.out
    obtain ⟨l, us, rs, rfl, hl, ru, G⟩ := item i v e
    have hl' := s1 _ _ hl
    have ru' := ru.keep s1
    have inn : ∀ r ∈ rs, r.f ∈ kvs.map (·.1) := fun r m => by rw [ek]; exact G.inn r m
    have good : ∀ r ∈ rs, isName r.f = true ∧ -B30 ≤ r.n ∧ r.n ≤ B30 := fun r m => ⟨vn _ (G.inn r m), G.lo r m, G.hi r m⟩
    clear item e
    walk_at "rd"
    refine ⟨l, us, rs, rfl, hl', ru', G.nd, good, G.few, fun p H13 s2 np C => ?_⟩
    have hl := s2 _ _ hl'
    have ru := ru'.keep s2
    have s3 := s1.trans s2
    have sA := s3
    have hc := s3 _ _ hc
    have hlt := s3 _ _ hlt
    have hbd := s3 _ _ hbd
    clear s1 s2 np hl' ru' good
    refine ⟨fun σ H' => Here (∃ o10, σ = [some (.ref a), some (.ref st), some (.ref nm), some (.ref c), o4, some (.ref sm), some (.ref lt), some (.ref bd), some (.ref l), some (.ref p), o10] ∧ Same H13 H'), ?_, fun σ H' y => ?_⟩
    · walk_at "rd"
      refine for_list (xs := L.map V.int) (fun i σ H' => Here (∃ o10, σ = [some (.ref a), some (.ref st), some (.ref nm), some (.ref c), o4, some (.ref sm), some (.ref lt), some (.ref bd), some (.ref l), some (.ref p), o10] ∧ Same H13 H')) (.mk ⟨_, rfl, Same.refl _⟩) (fun i σ H' _ y => ?_) (fun i v σ H' e y => ?_) (fun σ H' y => ?_)
      · obtain ⟨_, _, s1⟩ := y.out
        exact SqL.of (s1 _ _ hlt)
      · obtain ⟨o10, rfl, s1⟩ := y.out
        rw [List.getElem?_map] at e
        obtain ⟨n, en, rfl⟩ := Option.map_eq_some_iff.mp e
        obtain ⟨n0, n1⟩ := lets n (List.mem_of_getElem? en)
        clear e en
        walk_at "rd"
        refine ⟨p, l, c, n, us, rs, kvs, rfl, C.keep s1, s1 _ _ hl, ru.keep s1, G.few, G.nd, n0, n1, s1 _ _ hc, ndk, inn, fewk, kl, fun H2 s2 => ?_⟩
        walk_at "rd"
        exact .mk ⟨_, rfl, s1.trans s2⟩
      · obtain ⟨o10, rfl, s1⟩ := y.out
        exact .mk ⟨_, rfl, s1⟩
    obtain ⟨o10, rfl, s1⟩ := y.out
    have hbd0 := hbd
    have hbd := s1 _ _ hbd
    refine ⟨fun σ H' => Here (∃ o10, σ = [some (.ref a), some (.ref st), some (.ref nm), some (.ref c), o4, some (.ref sm), some (.ref lt), some (.ref bd), some (.ref l), some (.ref p), o10] ∧ Same H13 H'), ?_, fun σ H'' y => ?_⟩
    · walk_at "rd"
      refine for_list (xs := B.map V.int) (fun i σ H' => Here (∃ o10, σ = [some (.ref a), some (.ref st), some (.ref nm), some (.ref c), o4, some (.ref sm), some (.ref lt), some (.ref bd), some (.ref l), some (.ref p), o10] ∧ Same H13 H')) (.mk ⟨_, rfl, s1⟩) (fun i σ H2 _ y => ?_) (fun i v σ H2 e y => ?_) (fun σ H2 y => ?_)
      · obtain ⟨_, _, s2⟩ := y.out
        exact SqL.of (s2 _ _ hbd0)
      · obtain ⟨o10, rfl, s2⟩ := y.out
        rw [List.getElem?_map] at e
        obtain ⟨n, en, rfl⟩ := Option.map_eq_some_iff.mp e
        have nb := bads n (List.mem_of_getElem? en)
        have C2 := C.keep s2
        have few := G.few
        clear e en hbd s1
        walk_at "rd"
        refine ⟨p, n, false, rs, rfl, C2, by omega, fun _ q H3 s3 hq => ?_, fun z z2 => absurd nb (by omega)⟩
        walk_at "rd"
        intro t nt
        have s4 := same_new (o := .tup [.str "refused", .int n]) nt
        have hq := hq.mono s4
        have Dd : Is (upd H3 t (.tup [.str "refused", .int n])) (.ref t) (.tup [.str "refused", .int n]) := .tup (.inl upd_same) (Nat.le_of_ble_eq_true rfl) (.cons (.str _ (by decide)) (.cons (.int _) .nil))
        have s5 := s3.trans s4
        generalize upd H3 t (.tup [.str "refused", .int n]) = H4 at hq Dd s5 ⊢
        clear s4 nt
        refine ⟨_, _, _, rfl, hq, Dd, ref_fits n, fun H5 s6 => ?_⟩
        have s7 := s5.trans s6
        have C3 := C2.keep s7
        clear s6 s5 Dd hq s3
        walk_at "rd"
        refine ⟨p, n, true, rs, rfl, C3, by omega, fun _ q H6 s8 hq => ?_, fun z z2 => absurd nb (by omega)⟩
        walk_at "rd"
        intro t nt
        have s4 := same_new (o := .tup [.str "refused", .int n]) nt
        have hq := hq.mono s4
        have Dd : Is (upd H6 t (.tup [.str "refused", .int n])) (.ref t) (.tup [.str "refused", .int n]) := .tup (.inl upd_same) (Nat.le_of_ble_eq_true rfl) (.cons (.str _ (by decide)) (.cons (.int _) .nil))
        have s5 := (s7.trans s8).trans s4
        generalize upd H6 t (.tup [.str "refused", .int n]) = H7 at hq Dd s5 ⊢
        clear s4 nt
        refine ⟨_, _, _, rfl, hq, Dd, ref_fits n, fun H8 s9 => ?_⟩
        walk_at "rd"
        exact .mk ⟨_, rfl, s2.trans (s5.trans s9)⟩
      · obtain ⟨o10, rfl, s2⟩ := y.out
        exact .mk ⟨_, rfl, s2⟩
    obtain ⟨o10, rfl, s2⟩ := y.out
    clear hbd s1
    walk_at "rd"
    obtain ⟨dx, t, hp, ht⟩ := C.keep s2
    refine ⟨p, CC K, dx, _, .ref t, rfl, hp, cl, nn, rfl, ?_⟩
    walk_at "rd"
    have lu := ru.len
    have few := G.few
    refine ⟨l, _, rfl, .inl ⟨SqL.of (s2 _ _ hl), fun t2 nt => ?_⟩⟩
    have s3 := same_new (o := .tup us) nt
    have Dd : Is (upd H'' t2 (.tup us)) (.ref t2) (.tup (rs.map rowD)) := .tup (.inl upd_same) (by rw [sizeLine_eq]; omega) (Rows.imp (fun _ _ h => h.keep (s2.trans s3)) ru).is
    walk_at "rd"
    refine ⟨_, _, _, rfl, ht.mono s3, Dd, rows_fits rs, fun H8 s9 => ?_⟩
    walk_at "rd"
    exact .mk ⟨_, _, _, rfl, sA.trans ((s2.trans s3).trans s9)⟩
  · obtain ⟨o8, o9, o10, rfl, s1⟩ := y.out
    walk_at "rd"
    exact k _
end
end K13
namespace K13
open PySem PySem.Spec PyProof.Rows L2 TK
abbrev RowO : PySem.W.OpenRow := PySem.W.OpenLaw.row PySem.Challenge.rw_takenorelse_k13_change_many_times
abbrev hk : PySem.W.Hook := hookS 6 fa fn ex fi fs
def ob (s : PySem.W.SharedT) : AlS := obsS 6 fa fn ex fi fs (HandSHeadRun.getT s)
theorem ob_eq (s : PySem.W.SharedT) : ob s = hk.obs s.abs := obsS_eq (HandSHeadRun.getT_eq s)
def loose : List PySem.Str := (["_wall", "ElseputError", "BadName", "BadNumber", "BadText", "TooLarge", "UnknownName", "UnknownField", "assignment_forms", "LETTERS", "DIGITS", "RESERVED", "SIGNS", "NAME_LENGTH", "BOUND", "is_name", "check_name", "check_number", "run_end", "token_end", "tokens", "line_tokens", "is_integer", "Reader", "MOST_TIMES", "joined_assignment", "chained", "repeated", "change_of", "Change"] : List PySem.Str) ++ (["_law_state", "_law_draw", "_law_pick", "_law_mixed", "_law_number", "_law_constant", "_law_names", "_law_is_int", "_law_same", "_law_changed", "_law_change", "_law_some_rows", "_law_do", "_law_repeated", "_law_after", "_law_repeats"] : List PySem.Str)
theorem run (w : World) : HandSHeadRun.RunEq RowO (PySem.W.view RowO.prog [52]) hk ob 100000 loose w := by
  intro os
  kernel_rfl
end K13
open PySem PySem.W PySem.Calls PyProof.Rows
set_option maxRecDepth 100000 in
set_option maxHeartbeats 0 in
theorem PySem.Challenge.cw_takenorelse_k13_change_many_times_holds : PySem.Challenge.rw_takenorelse_k13_change_many_times.Holds := by
  w_on; o_law
  refine HandSHeadRun.head_any (r := OpenLaw.row PySem.Challenge.rw_takenorelse_k13_change_many_times) (q := view (OpenLaw.row PySem.Challenge.rw_takenorelse_k13_change_many_times).prog [52]) (H := K13.hk) (ob := K13.ob) (M := 100000) (loose := K13.loose) (d := HandSHeadRun.topDef (OpenLaw.row PySem.Challenge.rw_takenorelse_k13_change_many_times).prog 52) (kwd := []) K13.ob_eq
    (by kernel_rfl) (fun s => by kernel_rfl) K13.run (by kernel_rfl) (by kernel_rfl) (by kernel_rfl) (by rfl) (by first | assumption | decide +kernel) (by decide +kernel) ⟨rfl, rfl, rfl, rfl, rfl, by decide +kernel⟩ ?hw ?hc
  case hw => w_witness2
  case hc =>
    exact TK.row_byS (l := PySem.Challenge.rw_takenorelse_k13_change_many_times) (k := 10) (sp := K13.sp_law) (f := fun K => He.fAd K K13.at_law) (fd := fun K => TK.fdOf K K13.at_law) rfl (by kernel_rfl) ⟨rfl, by decide, by decide⟩ (by kernel_rfl)
      (fun K mg T => K13.Tx.m_law T) (fun K mg T s u => (L2.FunD.bindsA (ps := ["script"]) (K13.Tx.F_law T) (fun _ _ _ _ _ _ us hl => match us, hl with | [_], _ => rfl)) s [u] rfl)
      (fun K H a ns hl hO hS => K13.law_pre K H a ns hl hO hS) (fun w K mg base T => K13.ok_law T)
#print axioms PySem.Challenge.cw_takenorelse_k13_change_many_times_holds
