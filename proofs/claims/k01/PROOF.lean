import PyProof.Rows.All
import Wide.All
import OpenK.AllK
import Wide.FinOn
import KE.KStateDown
import Lean
import HandS.ForMost
import HandS.Style
import HandS.IsInst
import HandS.Wide
import HandS.Defaults
import HandS.WordsExc
import HandS.Head0
import HandS.Head1
import HandS.Head2
import HandS.HeadEnd
import HandS.HeadHook1
import HandS.HeadHook2
import PyProof.StrOps2
import HandS.Nested
import HandS.ExcInit
import HandS.ExcField
import HandS.ExcIs
import HandS.ExcOwn
import HandS.TryMany
import HandS.SuiteRaise
import KE.KExcSuper
import KE.KSuper
import PySem.Challenge.RW_takenorelse_k01_tokens_of_a_line
set_option Elab.async false
set_option linter.all false
set_option maxRecDepth 100000
set_option maxHeartbeats 4000000
/-! Own toolkit, part a: rules for operators whatever the kind of their operands; a list of a promise seen from outside as one thing that does not change. -/
namespace TK
open PySem PySem.Spec PyProof.Rows L2
section ops
variable {X : Cx}
/-- x is True, x is False, whatever x is -/
def rIsA : R2 := fun x y H Q => ∃ b, y = .bl b ∧ Q (.bl (decide (x = .bl b))) H
def rIsnotA : R2 := fun x y H Q => ∃ b, y = .bl b ∧ Q (.bl (!decide (x = .bl b))) H
theorem RelV.bool_iff {x : V} {v : Value} {b : Bool} (r : RelV x v) : (v == Value.bool b) = decide (x = .bl b) ∧ plainIs v (.bool b) = true := by
  cases x with
  | non => cases r; exact ⟨rfl, rfl⟩
  | bl c => cases r; exact ⟨by cases c <;> cases b <;> rfl, rfl⟩
  | int _ => obtain ⟨t, rfl⟩ := r; exact ⟨rfl, rfl⟩
  | str _ => obtain ⟨t, rfl⟩ := r; exact ⟨rfl, rfl⟩
  | byt _ => obtain ⟨t, rfl⟩ := r; exact ⟨rfl, rfl⟩
  | flt _ => obtain ⟨t, rfl⟩ := r; exact ⟨rfl, rfl⟩
  | ref _ => cases r; exact ⟨rfl, rfl⟩
  | ty _ => cases r; exact ⟨rfl, rfl⟩
theorem op_isA : OpR X (compareOp .Is) rIsA := by
  intro pins s σ H x y v u Q I rx ry h
  obtain ⟨b, rfl, q⟩ := h
  cases (show u = Value.bool b from ry)
  obtain ⟨e1, e2⟩ := RelV.bool_iff (b := b) rx
  exact wpAny_is_plain e2 ⟨.bl _, H, I, by rw [e1]; rfl, q⟩
theorem op_isnotA : OpR X (compareOp .IsNot) rIsnotA := by
  intro pins s σ H x y v u Q I rx ry h
  obtain ⟨b, rfl, q⟩ := h
  cases (show u = Value.bool b from ry)
  obtain ⟨e1, e2⟩ := RelV.bool_iff (b := b) rx
  exact wpAny_isNot_plain e2 ⟨.bl _, H, I, by rw [e1]; rfl, q⟩
abbrev rAddI : R2 := rI0 fun i j => .int (i + j)
def rAddS : R2 := fun x y H Q => ∃ i j, x = .str i ∧ y = .str j ∧ i.length + j.length ≤ sizeLine ∧ Q (.str (i ++ j)) H
/-- + of ints, texts, lists, tuples -/
abbrev rAddA (K : PySem.W.Frag) : R2 := fun x y H Q => rAddI x y H Q ∨ rAddS x y H Q ∨ rCat x y H Q ∨ rCatT K x y H Q
theorem op_addA : OpR X (binaryOp .Add) (rAddA X.K) := op_add.or ((op_add_str : OpR X (binaryOp .Add) rAddS).or (op_cat.or op_catT))
abbrev rMulA : R2 := rI CMul fun i j => .int (i * j)
theorem op_mulA : OpR X (binaryOp .Mult) rMulA := op_mul
abbrev rIxA (K : PySem.W.Frag) : R2 := rIx K
theorem ix_A : IxR X (rIxA X.K) := ix_seq
theorem SlR.or {r r' : V → Option Int → Option Int → Hp → VK → Prop} (h : SlR X r) (h' : SlR X r') : SlR X (fun x l u H Q => r x l u H Q ∨ r' x l u H Q) := by
  intro pins s σ H x v vl vu lo hi sl Q I rx hs pl pu q
  rcases q with q | q
  · exact h pins s σ H x v vl vu lo hi sl Q I rx hs pl pu q
  · exact h' pins s σ H x v vl vu lo hi sl Q I rx hs pl pu q
/-- x[a:b] of a text, a list, a tuple -/
theorem sl_A : SlR X (fun x l u H Q => rSlS x l u H Q ∨ rSlL X.K x l u H Q ∨ rSlT X.K x l u H Q) := SlR.or sl_str (SlR.or sl_list sl_tup)
theorem CallR.or {f : Value} {r r' : List V → Hp → VK → Prop} (h : CallR X f r) (h' : CallR X f r') : CallR X f (fun xs H Q => r xs H Q ∨ r' xs H Q) := by
  intro pins s σ H vs us Q I r1 q
  rcases q with q | q
  · exact h pins s σ H vs us Q I r1 q
  · exact h' pins s σ H vs us Q I r1 q
def rLenS : List V → Hp → VK → Prop := fun xs H Q => ∃ z, xs = [.str z] ∧ z.length ≤ sizeLine ∧ Q (.int z.length) H
def rLenL (K : PySem.W.Frag) : List V → Hp → VK → Prop := fun xs H Q => ∃ p ys, xs = [.ref p] ∧ (SqL K H p ys ∨ SqT K H p ys) ∧ Q (.int ys.length) H
theorem call_lenA : CallR X (.builtin "len") (fun xs H Q => rLenS xs H Q ∨ rLenL X.K xs H Q) := CallR.or (r := rLenS) (r' := rLenL X.K) call_len_str call_len_seq
def rInSign : R2 := fun x y H Q => ∃ (c : Nat) (z : Str), x = .str ⟨#[c]⟩ ∧ y = .str z ∧ Q (.bl (decide (c ∈ z.cps.toList))) H
def rNinSign : R2 := fun x y H Q => ∃ (c : Nat) (z : Str), x = .str ⟨#[c]⟩ ∧ y = .str z ∧ Q (.bl (!decide (c ∈ z.cps.toList))) H
def rInQ (K : PySem.W.Frag) : R2 := fun x y H Q => ∃ p xs, y = .ref p ∧ (SqL K H p xs ∨ SqT K H p xs) ∧ flatV x = true ∧ xs.all flatV = true ∧ Q (.bl (inV x xs)) H
def rNinQ (K : PySem.W.Frag) : R2 := fun x y H Q => ∃ p xs, y = .ref p ∧ (SqL K H p xs ∨ SqT K H p xs) ∧ flatV x = true ∧ xs.all flatV = true ∧ Q (.bl (!inV x xs)) H
theorem op_inQ : OpR X (compareOp .In) (rInQ X.K) := op_in_seq
theorem op_ninQ : OpR X (compareOp .NotIn) (rNinQ X.K) := op_notIn_seq
/-- x in y: a sign in a text; a flat thing in a list or a tuple -/
theorem op_inA : OpR X (compareOp .In) (fun x y H Q => rInSign x y H Q ∨ rInQ X.K x y H Q) := OpR.or (r := rInSign) op_in_sign op_inQ
theorem op_ninA : OpR X (compareOp .NotIn) (fun x y H Q => rNinSign x y H Q ∨ rNinQ X.K x y H Q) := OpR.or (r := rNinSign) op_notIn_sign op_ninQ
end ops
/-! ### a list that its users see as one thing -/
/-- at st stands a list whose items are so -/
def lsat (S : List V → Prop) (st : Addr) : Heap → Prop := fun h => ∃ xs, S xs ∧ xs.length ≤ sizeLine ∧ ∃ (its : List Value) (n : Nat), Vals xs its ∧ h.get? st = some { cls := .type "list", data := .seq its.toArray n }
section view
variable {P : Program} {w : World} {K : PySem.W.Frag} {mg : Str → Option Value} {base : Heap} {H H' : Hp} {h h' : Heap} {st : Addr} {S : List V → Prop} {xs : List V} {u : HO}
theorem hok_swap {o : HO} (x : HOk P w H h) (hs : H st = some u) (hu : ∀ y, u ≠ .own y) (ht : ∀ y, u ≠ .tup y) (new : ObjOk P w (upd H st o) h st o) : HOk P w (upd H st o) h := fun b v e => by
  by_cases hb : b = st
  · subst hb; rw [upd_same] at e; cases e; exact new
  · rw [upd_ne hb] at e
    refine (x b v e).stay (fun c v _ q => q) (fun c q => ?_) fun c ys q => ?_
    · have : c ≠ st := fun z => by subst z; rw [hs] at q; cases q; exact hu _ rfl
      rw [upd_ne this]; exact q
    · have : c ≠ st := fun z => by subst z; rw [hs] at q; cases q; exact ht _ rfl
      rw [upd_ne this]; exact q
theorem open_lsat (x : HOk P w H h) (hs : H st = some (.ext (lsat S st))) : ∃ xs, S xs ∧ HOk P w (upd H st (.lst xs)) h := by
  obtain ⟨⟨xs, s1, z, its, n, r, e⟩, _, _⟩ := x st _ hs
  exact ⟨xs, s1, hok_swap x hs (fun _ => nofun) (fun _ => nofun) ⟨z, its, n, r, e⟩⟩
theorem shut_lsat (x : HOk P w H h) (hs : H st = some (.lst xs)) (sx : S xs) : HOk P w (upd H st (.ext (lsat S st))) h := by
  obtain ⟨z, its, n, r, e⟩ := x st _ hs
  refine hok_swap x hs (fun _ => nofun) (fun _ => nofun) ⟨⟨xs, sx, z, its, n, r, e⟩, ⟨_, e⟩, fun h1 h2 q k => ?_⟩
  obtain ⟨xs, sx, z, its, n, r, e⟩ := q
  exact ⟨xs, sx, z, its, n, r, k _ e⟩
theorem un_open {fs ex : List Addr} {o : HO} (x : Un fs ex (upd H st o) H' h h') (hs : H st = some u) (ht : ∀ y, u ≠ .tup y) (hf : ∀ a b, u ≠ .frz a b) (hl : ∀ a, u ≠ .tbl a) : Un fs ex H H' h h' := by
  have ne : ∀ b, H b = none → (upd H st o) b = none := fun b e => by
    have : b ≠ st := fun z => by subst z; rw [hs] at e; cases e
    rw [upd_ne this]; exact e
  refine ⟨fun b ob q n => x.keep b ob q (ne b n), fun b ob q n => x.slot b ob q (ne b n), fun b ob q n => x.free b ob q (ne b n), x.there, fun b ys q => ?_, fun b o v q => ?_, fun b ps q => ?_⟩
  · have : b ≠ st := fun z => by subst z; rw [hs] at q; cases q; exact ht _ rfl
    exact x.tups b ys (by rw [upd_ne this]; exact q)
  · have : b ≠ st := fun z => by subst z; rw [hs] at q; cases q; exact hf _ _ rfl
    exact x.frzs b o v (by rw [upd_ne this]; exact q)
  · have : b ≠ st := fun z => by subst z; rw [hs] at q; cases q; exact hl _ rfl
    exact x.tbls b ps (by rw [upd_ne this]; exact q)
theorem un_shut {fs ex : List Addr} {o : HO} (x : Un fs ex H H' h h') (hs : H' st = some u) (ht : ∀ y, u ≠ .tup y) (hf : ∀ a b, u ≠ .frz a b) (hl : ∀ a, u ≠ .tbl a) : Un fs ex H (upd H' st o) h h' := by
  refine ⟨x.keep, x.slot, fun b ob q n hx => ?_, x.there, fun b ys q => ?_, fun b o v q => ?_, fun b ps q => ?_⟩
  · have e := x.free b ob q n hx
    have : b ≠ st := fun z => by subst z; rw [hs] at e; cases e
    rw [upd_ne this]; exact e
  · have e := x.tups b ys q
    have : b ≠ st := fun z => by subst z; rw [hs] at e; cases e; exact ht _ rfl
    rw [upd_ne this]; exact e
  · have e := x.frzs b o v q
    have : b ≠ st := fun z => by subst z; rw [hs] at e; cases e; exact hf _ _ rfl
    rw [upd_ne this]; exact e
  · obtain ⟨m, e⟩ := x.tbls b ps q
    have : b ≠ st := fun z => by subst z; rw [hs] at e; cases e; exact hl _ rfl
    exact ⟨m, by rw [upd_ne this]; exact e⟩
variable {k : Nat} {f : Addr} {fd : FuncData} {ps : List Str} {sp sp' : Sp}
/-- a def that works on the list at st, told to those who see it as one thing -/
theorem fn_view (F : FnOk P w K mg base CX0 k f fd ps sp) (hl : ∀ vs H Q E, sp' vs H Q E → vs.length = ps.length)
    (hv : ∀ vs H Q E, sp' vs H Q E → ∃ st S, H st = some (.ext (lsat S st)) ∧ ∀ xs, S xs → sp vs (upd H st (.lst xs)) (fun v H' => ∃ xs', S xs' ∧ H' st = some (.lst xs') ∧ Q v (upd H' st (.ext (lsat S st)))) E) :
    FnOk P w K mg base CX0 k f fd ps sp' := by
  refine ⟨hl, fun A outer s H args us vs Q E hr e0 hb rv hsp => ?_⟩
  obtain ⟨st, S, hs, hS⟩ := hv vs H Q E hsp
  obtain ⟨xs, sx, hok⟩ := open_lsat e0.hok hs
  have ne : ∀ b o, H b = none → (upd H st o) b = none := fun b o e => by
    have : b ≠ st := fun z => by subst z; rw [hs] at e; cases e
    rw [upd_ne this]; exact e
  have e1 : Env0 P w K mg base A outer s (upd H st (.lst xs)) := ⟨e0.frames, e0.mod, fun b o e => ⟨(e0.bs b o e).1, ne b _ (e0.bs b o e).2⟩, e0.bsz, e0.funs, fun b hb => ne b _ (e0.frf b hb), hok, e0.bare⟩
  refine codeAny_mono (F.run A outer s _ args us vs _ E hr e1 hb rv (hS xs sx)) fun r s' h => ?_
  cases r with
  | error e => exact h
  | ok fl =>
    cases fl with
    | ret v =>
      obtain ⟨v, H', os, bare, un, hok', r', xs', sx', hs', q⟩ := h
      exact ⟨v, _, os, bare, un_shut (un_open un hs (fun _ => nofun) (fun _ _ => nofun) (fun _ => nofun)) hs' (fun _ => nofun) (fun _ _ => nofun) (fun _ => nofun), shut_lsat hok' hs' sx', r', q⟩
    | next => exact h
    | brk => exact h
    | cont => exact h
/-- a def that makes the list -/
theorem fn_seal (F : FnOk P w K mg base CX0 k f fd ps sp) (hl : ∀ vs H Q E, sp' vs H Q E → vs.length = ps.length)
    (hv : ∀ vs H Q E, sp' vs H Q E → sp vs H (fun v H' => ∃ st S xs', S xs' ∧ H' st = some (.lst xs') ∧ Q v (upd H' st (.ext (lsat S st)))) E) :
    FnOk P w K mg base CX0 k f fd ps sp' := by
  refine ⟨hl, fun A outer s H args us vs Q E hr e0 hb rv hsp => ?_⟩
  refine codeAny_mono (F.run A outer s _ args us vs _ E hr e0 hb rv (hv vs H Q E hsp)) fun r s' h => ?_
  cases r with
  | error e => exact h
  | ok fl =>
    cases fl with
    | ret v =>
      obtain ⟨v, H', os, bare, un, hok', r', st, S, xs', sx', hs', q⟩ := h
      exact ⟨v, _, os, bare, un_shut un hs' (fun _ => nofun) (fun _ _ => nofun) (fun _ => nofun), shut_lsat hok' hs' sx', r', q⟩
    | next => exact h
    | brk => exact h
    | cont => exact h
end view
end TK
namespace TK
open PySem PySem.Spec PyProof.Rows L2
section
variable {X : Cx}
theorem op_ltA : OpR X (compareOp .Lt) (rI0 fun i j => .bl (decide (i < j))) := op_lt
theorem op_eqA : OpR X (compareOp .Eq) rEq := op_eq
theorem op_neA : OpR X (compareOp .NotEq) rNe := op_ne
theorem set_A : PSet X rSetL := set_list
end
/-! ### the law's own draws -/
/-- what a draw may be below -/
theorem big_ex : ∃ b : Int, ((2 : Int) ^ 63 < b ∧ (10 : Int) ^ 40 < b) ∧ b ≤ 2 ^ 8000 := ⟨2 ^ 8000, by decide +kernel, by decide +kernel⟩
noncomputable def BIG : Int := Classical.choose big_ex
theorem lt_big {i : Int} (h : i < 2 ^ 63) : i < BIG := by
  have : (2 : Int) ^ 63 < BIG := (Classical.choose_spec big_ex).1.1
  omega
theorem lt_big40 {i : Int} (h : i < 10 ^ 40) : i < BIG := Int.lt_trans h (Classical.choose_spec big_ex).1.2
theorem line_big {n : Nat} (h : n ≤ sizeLine) : (n : Int) < BIG := lt_big (by rw [sizeLine_eq] at h; omega)
/-- the items of the list of draws: the script's copy at q, the place, the number, the mode, the count -/
def StS (q : Addr) (n : Nat) (xs : List V) : Prop := ∃ i v m c : Int, xs = [.ref q, .int i, .int v, .int m, .int c] ∧ 0 ≤ i ∧ i ≤ (n : Int)
/-- the list of draws stands at st -/
def StAt (H : Hp) (st : Addr) : Prop := ∃ (q : Addr) (ns : List Int), ns.length ≤ 63 ∧ H q = some (.lst (ns.map V.int)) ∧ H st = some (.ext (lsat (StS q ns.length) st))
theorem StAt.mono {H H' : Hp} {st : Addr} (s : Same H H') (h : StAt H st) : StAt H' st := by
  obtain ⟨q, ns, z, h1, h2⟩ := h
  exact ⟨q, ns, z, s _ _ h1, s _ _ h2⟩
/-- what a draw does to the list itself -/
def sp_draw0 : Sp := fun vs H Q _ => ∃ (st q : Addr) (ns : List Int) (xs : List V) (many : Int), vs = [.ref st, .int many] ∧ ns.length ≤ 63 ∧ H q = some (.lst (ns.map V.int)) ∧ H st = some (.lst xs) ∧ StS q ns.length xs ∧ 0 < many ∧ many < BIG ∧
  ∀ (d : Int) (xs' : List V) (H' : Hp), H' st = some (.lst xs') → StS q ns.length xs' → (∀ b o, b ≠ st → H b = some o → H' b = some o) → 0 ≤ d → d < many → Q (.int d) H'
/-- a draw, as its users see it: some number from 0 to below many -/
def sp_draw : Sp := fun vs H Q _ => ∃ (st : Addr) (many : Int), vs = [.ref st, .int many] ∧ StAt H st ∧ 0 < many ∧ many < BIG ∧ ∀ (d : Int) (H' : Hp), Same H H' → 0 ≤ d → d < many → Q (.int d) H'
theorem draw_view {P : Program} {w : World} {K : PySem.W.Frag} {mg : Str → Option Value} {base : Heap} {k : Nat} {f : Addr} {fd : FuncData} (F : FnOk P w K mg base CX0 k f fd ["state", "many"] sp_draw0) : FnOk P w K mg base CX0 k f fd ["state", "many"] sp_draw := by
  refine fn_view F (fun vs H Q E h => ?_) fun vs H Q E h => ?_
  · obtain ⟨_, _, rfl, _⟩ := h; rfl
  · obtain ⟨st, many, rfl, ⟨q, ns, z, h1, h2⟩, m0, m1, k⟩ := h
    have nq : q ≠ st := ne_of h1 h2 nofun
    refine ⟨st, _, h2, fun xs sx => ⟨st, q, ns, xs, many, rfl, z, by rw [upd_ne nq]; exact h1, upd_same, sx, m0, m1, fun d xs' H' e1 e2 kp d0 d1 => ⟨xs', e2, e1, k d _ (fun b o e => ?_) d0 d1⟩⟩⟩
    by_cases hb : b = st
    · subst hb; rw [h2] at e; cases e; exact upd_same
    · rw [upd_ne hb]; exact kp b o hb (by rw [upd_ne hb]; exact e)
/-- state = [list(script), 0, 0, 0, 0] -/
def sp_state (K : PySem.W.Frag) : Sp := fun vs H Q _ => ∃ (a : Addr) (ns : List Int), vs = [.ref a] ∧ SqL K H a (ns.map V.int) ∧ ns.length ≤ 63 ∧ ∀ (st : Addr) (H' : Hp), Same H H' → StAt H' st → Q (.ref st) H'
def sp_state0 (K : PySem.W.Frag) : Sp := fun vs H Q _ => ∃ (a : Addr) (ns : List Int), vs = [.ref a] ∧ SqL K H a (ns.map V.int) ∧ ns.length ≤ 63 ∧
  ∀ (q st : Addr) (H' : Hp), Same H H' → H st = none → H' q = some (.lst (ns.map V.int)) → H' st = some (.lst [.ref q, .int 0, .int 0, .int 0, .int 0]) → Q (.ref st) H'
theorem state_seal {P : Program} {w : World} {K : PySem.W.Frag} {mg : Str → Option Value} {base : Heap} {k : Nat} {f : Addr} {fd : FuncData} (F : FnOk P w K mg base CX0 k f fd ["script"] (sp_state0 K)) : FnOk P w K mg base CX0 k f fd ["script"] (sp_state K) := by
  refine fn_seal F (fun vs H Q E h => ?_) fun vs H Q E h => ?_
  · obtain ⟨_, _, rfl, _⟩ := h; rfl
  · obtain ⟨a, ns, rfl, hS, z, k⟩ := h
    refine ⟨a, ns, rfl, hS, z, fun q st H' sm n0 e1 e2 => ⟨st, StS q ns.length, _, ⟨0, 0, 0, 0, rfl, Int.le_refl _, by omega⟩, e2, k st _ (fun b o e => ?_) ⟨q, ns, z, ?_, upd_same⟩⟩⟩
    · have : b ≠ st := fun z => by subst z; rw [n0] at e; cases e
      rw [upd_ne this]; exact sm _ _ e
    · have : q ≠ st := ne_of e1 e2 (by
        intro z
        have z1 : ns.map V.int = [.ref q, .int 0, .int 0, .int 0, .int 0] := by injection z
        cases ns with
        | nil => cases z1
        | cons n r => cases z1)
      rw [upd_ne this]; exact e1
theorem same_new {H : Hp} {p : Addr} {o : HO} (h : H p = none) : Same H (upd H p o) := fun b u q => by rw [upd_ne (ne_of_none q h)]; exact q
end TK
namespace TK
open PySem PySem.Spec PyProof.Rows L2
/-- a statement, then the rest, with a word of one's own between them -/
def tCutT (t u : TS) : TS := fun D σ H => ∃ Mid : L2.St → Hp → Prop, t { D with nx := Mid } σ H ∧ ∀ σ' H', Mid σ' H' → u D σ' H'
theorem pss_cutT {X : Cx} {st : Stmt} {rest : List Stmt} {t u : TS} (h1 : PS X st t) (h2 : PSs X rest u) : PSs X (st :: rest) (tCutT t u) := by
  refine ⟨fun pins s σ H D I h => ?_⟩
  obtain ⟨Mid, hm, hu⟩ := h
  refine wpAny_execs_cons (thn (h1.run pins s σ H { D with nx := Mid } I hm) fun f s1 q => ?_)
  cases f with
  | next =>
    obtain ⟨σ', H', I', q⟩ := q
    exact h2.run pins s1 σ' H' D I' (hu σ' H' q)
  | ret v => exact q
  | brk => exact q
  | cont => exact q
end TK
namespace TK
open PySem PySem.Spec PyProof.Rows L2
theorem cdiv_of {i j : Int} (h0 : 0 < j) (h1 : j < BIG) : CDivW i j := by
  have h2 : BIG ≤ 2 ^ 8000 := (Classical.choose_spec big_ex).2
  exact wide_div (b := 8000) h0 (by omega) (by decide) (by decide)
theorem cdiv_small {i j : Int} (h0 : 0 < j) (h1 : j < 2 ^ 63) : CDivW i j := cdiv_of h0 (lt_big h1)
end TK
namespace TK
open PySem PySem.Spec PyProof.Rows L2
theorem at_ints {ns : List Int} {i : Int} (h0 : 0 ≤ i) (h1 : i < (ns.length : Int)) : atI (ns.map V.int) i = some (.int (ns[i.toNat]'(by omega))) := by
  have e : i = ((i.toNat : Nat) : Int) := by omega
  have q : atI (ns.map V.int) ((i.toNat : Nat) : Int) = some (.int (ns[i.toNat]'(by omega))) := atI_nat (by rw [List.getElem?_map, List.getElem?_eq_getElem (show i.toNat < ns.length by omega)]; rfl)
  rw [← e] at q
  exact q
theorem emod_lt' {a b : Int} (h : 0 < b) : a % b < b := Int.emod_lt_of_pos a h
theorem emod_ge' {a b : Int} (h : 0 < b) : 0 ≤ a % b := Int.emod_nonneg a (by omega)
end TK
namespace TK
/-- a word at which the tactics stop -/
inductive Here (p : Prop) : Prop
  | mk (h : p)
  | no (h : False)
theorem Here.out {p : Prop} (h : Here p) : p := by
  cases h with
  | mk h => exact h
  | no h => exact h.elim
end TK
namespace TK
open PySem PySem.Spec PyProof.Rows L2
/-- kinds of things, and for lists their lengths -/
def htag : HO → Nat
  | .lst [] => 0
  | .lst [_] => 1
  | .lst (_ :: _ :: _) => 2
  | .tup _ => 3
  | .dK _ => 4
  | .ext _ => 5
  | .xd _ => 6
  | .ins _ _ _ => 7
  | .own _ => 8
  | .rng _ _ => 9
  | _ => 10
theorem ne_tag {H : Hp} {a b : Addr} {o u : HO} (h1 : H a = some o) (h2 : H b = some u) (h : (htag o == htag u) = false) : a ≠ b := ne_of h1 h2 fun e => by
  rw [e] at h
  simp at h
end TK
/-! Own toolkit, part b: texts, loops over them, small lists of texts. -/
namespace TK
open PySem PySem.Spec PyProof.Rows L2
/-! ### texts -/
theorem cps_app (x y : Str) : (x ++ y).cps.toList = x.cps.toList ++ y.cps.toList := by
  rw [PySem.Str.cps_append] <;> simp
theorem len_cps (x : Str) : x.length = x.cps.toList.length := by simp [Str.length]
theorem str_ext {x y : Str} (h : x.cps.toList = y.cps.toList) : x = y := by
  obtain ⟨a⟩ := x
  obtain ⟨b⟩ := y
  have e : a = b := by simpa using h
  rw [e]
theorem len_app (x y : Str) : (x ++ y).length = x.length + y.length := by
  rw [len_cps, cps_app, List.length_append, ← len_cps, ← len_cps]
theorem len_sign (c : Nat) : (⟨#[c]⟩ : Str).length = 1 := rfl
theorem inV_strs (x : Str) : ∀ ws : List Str, inV (.str x) (ws.map V.str) = decide (x ∈ ws)
  | [] => rfl
  | w :: ws => by
    have ih := inV_strs x ws
    unfold inV at ih ⊢
    rw [List.map_cons, List.any_cons, ih]
    show ((w == x) || decide (x ∈ ws)) = decide (x ∈ w :: ws)
    by_cases e : w = x
    · subst e; simp
    · simp [e, Ne.symm e]
theorem all_flat (ws : List Str) : (ws.map V.str).all flatV = true := by
  rw [List.all_eq_true]
  intro v hv
  obtain ⟨w, _, rfl⟩ := List.mem_map.mp hv
  rfl
/-- over the signs of a text -/
theorem for_str {x : Str} {g : TG} {tb : TS} {D : Ends} {σ : L2.St} {H : Hp} (Pv : Nat → L2.St → Hp → Prop) (h0 : Pv 0 σ H)
    (hs : ∀ i c σ H, x.cps[i]? = some c → Pv i σ H → g (.str ⟨#[c]⟩) σ H fun σ2 H2 => tb { D with nx := Pv (i + 1), ct := Pv (i + 1), bk := D.nx } σ2 H2) (hd : ∀ σ H, Pv x.cps.size σ H → D.nx σ H) :
    ∃ W : Nat → Nat → L2.St → Hp → Prop, (∃ m, W 0 m σ H) ∧ ∀ i m σ H, W i m σ H →
      ((Its x).stop i H ∧ D.nx σ H) ∨ ((Its x).go i H ∧ ∃ N : L2.St → Hp → Prop, (∀ σ' H', N σ' H' → ∃ m', m' < m ∧ W (i + 1) m' σ' H') ∧ ∀ v H', (Its x).yld i H v H' → g v σ H' fun σ2 H2 => tb { D with nx := N, ct := N, bk := D.nx } σ2 H2) := by
  refine ⟨fun i m σ H => m = x.cps.size - i ∧ i ≤ x.cps.size ∧ Pv i σ H, ⟨x.cps.size, by simp, Nat.zero_le _, h0⟩, ?_⟩
  rintro i m σ H ⟨rfl, hi, p⟩
  by_cases hlt : i < x.cps.size
  · refine .inr ⟨hlt, Pv (i + 1), fun σ' H' p' => ⟨x.cps.size - (i + 1), by omega, rfl, hlt, p'⟩, fun v H' y => ?_⟩
    obtain ⟨e, c, hc, e2⟩ := y
    subst e e2
    exact hs i c σ _ hc p
  · have e : i = x.cps.size := by omega
    subst e
    exact .inl ⟨Nat.le_refl _, hd σ H p⟩
theorem mem_cps {x : Str} {i c : Nat} (h : x.cps[i]? = some c) : c ∈ x.cps.toList := by
  obtain ⟨h1, h2⟩ := Array.getElem?_eq_some_iff.mp h
  rw [← h2]
  simp
theorem cps_at {x : Str} {i c : Nat} (h : x.cps[i]? = some c) : x.cps.toList[i]? = some c := by
  rw [← h]; simp
/-- a loop that leaves at the first sign that is not so: up to i all are so -/
theorem all_take {l : List Nat} {f : Nat → Bool} {i c : Nat} (h : l[i]? = some c) (ih : (l.take i).all f = true) (hc : f c = true) : (l.take (i + 1)).all f = true := by
  rw [List.take_add_one, List.all_append, ih, h]
  simpa using hc
theorem not_all {l : List Nat} {f : Nat → Bool} {i c : Nat} (h : l[i]? = some c) (hc : f c = false) : l.all f = false := by
  rw [List.all_eq_false]
  exact ⟨c, List.mem_of_getElem? h, by rw [hc]; decide⟩
/-- an item of a text at a number below its length -/
theorem at_str {z : Str} {i : Int} (h0 : 0 ≤ i) (h1 : i < (z.length : Int)) : ∃ c, atI z.cps.toList i = some c ∧ c ∈ z.cps.toList := by
  have hl : i.toNat < z.cps.toList.length := by rw [← len_cps]; omega
  refine ⟨z.cps.toList[i.toNat], ?_, List.getElem_mem hl⟩
  have q : atI z.cps.toList ((i.toNat : Nat) : Int) = some z.cps.toList[i.toNat] := atI_nat (List.getElem?_eq_getElem hl)
  rw [show ((i.toNat : Nat) : Int) = i by omega] at q
  exact q
theorem at_list {xs : List V} {i : Int} (h0 : 0 ≤ i) (h1 : i < (xs.length : Int)) : ∃ v, atI xs i = some v ∧ xs[i.toNat]? = some v ∧ v ∈ xs := by
  have hl : i.toNat < xs.length := by omega
  refine ⟨xs[i.toNat], ?_, List.getElem?_eq_getElem hl, List.getElem_mem hl⟩
  have q : atI xs ((i.toNat : Nat) : Int) = some xs[i.toNat] := atI_nat (List.getElem?_eq_getElem hl)
  rw [show ((i.toNat : Nat) : Int) = i by omega] at q
  exact q
theorem sIx_nat' (n d : Nat) (i : Int) (h : 0 ≤ i) : HT.sIx n d (some i) = min i.toNat n := by
  have := HT.sIx_nat n d i.toNat
  rw [show ((i.toNat : Nat) : Int) = i by omega] at this
  exact this
theorem cutS_to {z : Str} {i : Int} (h0 : 0 ≤ i) : (cutS z none (some i)).cps.toList = z.cps.toList.take i.toNat := by
  unfold cutS
  show List.take (HT.sIx z.length z.length (some i) - HT.sIx z.length 0 none) (List.drop (HT.sIx z.length 0 none) z.cps.toList) = _
  rw [HT.sIx_none, sIx_nat' _ _ _ h0, List.drop_zero, Nat.sub_zero, len_cps, ← List.take_eq_take_min]
theorem cutS_from {z : Str} {i : Int} (h0 : 0 ≤ i) : (cutS z (some i) none).cps.toList = z.cps.toList.drop i.toNat := by
  unfold cutS
  show List.take (HT.sIx z.length z.length none - HT.sIx z.length 0 (some i)) (List.drop (HT.sIx z.length 0 (some i)) z.cps.toList) = _
  rw [HT.sIx_none, sIx_nat' _ _ _ h0, len_cps]
  by_cases h : i.toNat ≤ z.cps.toList.length
  · rw [Nat.min_eq_left h]
    exact List.take_of_length_le (by rw [List.length_drop]; exact Nat.le_refl _)
  · rw [Nat.min_eq_right (by omega), List.drop_of_length_le (Nat.le_refl _), List.drop_of_length_le (by omega)]
    simp
end TK
namespace TK
open PySem PySem.Spec PyProof.Rows L2
/-- an item of a text or of a list, drawn -/
def sp_pick (K : PySem.W.Frag) : Sp := fun vs H Q _ => ∃ (st : Addr) (row : V), vs = [.ref st, row] ∧ StAt H st ∧
  ((∃ z : Str, row = .str z ∧ 0 < z.length ∧ z.length ≤ sizeLine ∧ ∀ (c : Nat) (H' : Hp), Same H H' → c ∈ z.cps.toList → Q (.str ⟨#[c]⟩) H') ∨
   (∃ (p : Addr) (xs : List V), row = .ref p ∧ H p = some (.lst xs) ∧ xs ≠ [] ∧ xs.length ≤ sizeLine ∧ ∀ (v : V) (H' : Hp), Same H H' → v ∈ xs → Q v H'))
end TK
namespace TK
open PySem PySem.Spec PyProof.Rows L2
theorem app_len {x y : Str} {n m : Nat} (h : x.length ≤ n) (h2 : y.length ≤ m) (h3 : n + m ≤ 16777216) : x.length + y.length ≤ sizeLine := by
  rw [sizeLine_eq]; omega
theorem sgn_app {x : Str} {c : Nat} {l : List Nat} (h : ∀ c ∈ x.cps.toList, c ∈ l) (hc : c ∈ l) : ∀ d ∈ (x ++ (⟨#[c]⟩ : Str)).cps.toList, d ∈ l := fun d hd => by
  rw [cps_app] at hd
  rcases List.mem_append.mp hd with e | e
  · exact h d e
  · have e : d ∈ [c] := e
    rw [List.mem_singleton.mp e]; exact hc
theorem line_le {n m : Nat} (h : n ≤ m) (h2 : m ≤ 16777216) : n ≤ sizeLine := by
  rw [sizeLine_eq]; omega
end TK
namespace TK
open PySem PySem.Spec PyProof.Rows L2
theorem cutS_lento {z : Str} {i : Int} (h0 : 0 ≤ i) : (cutS z none (some i)).length = min i.toNat z.length := by
  rw [len_cps, cutS_to h0, List.length_take, ← len_cps]
theorem cutS_lenfrom {z : Str} {i : Int} (h0 : 0 ≤ i) : (cutS z (some i) none).length = z.length - i.toNat := by
  rw [len_cps, cutS_from h0, List.length_drop, ← len_cps]
end TK
namespace TK
open PySem PySem.Spec PyProof.Rows L2
theorem cutS_both {z : Str} {i j : Int} (h0 : 0 ≤ i) (h1 : i ≤ j) : (cutS z (some i) (some j)).cps.toList = (z.cps.toList.drop i.toNat).take (j.toNat - i.toNat) := by
  unfold cutS
  show List.take (HT.sIx z.length z.length (some j) - HT.sIx z.length 0 (some i)) (List.drop (HT.sIx z.length 0 (some i)) z.cps.toList) = _
  rw [sIx_nat' _ _ _ h0, sIx_nat' _ _ _ (Int.le_trans h0 h1), len_cps]
  by_cases h : i.toNat ≤ z.cps.toList.length
  · rw [Nat.min_eq_left h, List.take_eq_take_iff, List.length_drop]
    omega
  · have e1 : List.drop (min i.toNat z.cps.toList.length) z.cps.toList = [] := List.drop_of_length_le (by omega)
    have e2 : List.drop i.toNat z.cps.toList = [] := List.drop_of_length_le (by omega)
    rw [e1, e2]
    simp
theorem mem_cpsl {x : Str} : ∀ {ws : List Str}, x ∈ ws ↔ x.cps.toList ∈ ws.map fun z => z.cps.toList := fun {ws} => by
  rw [List.mem_map]
  exact ⟨fun h => ⟨x, h, rfl⟩, fun ⟨y, hy, e⟩ => str_ext e ▸ hy⟩
end TK
/-! Own toolkit, part h: what the program's top has left, told by names (a Hook with further yes-or-no facts). -/
namespace TK
open PySem PySem.Spec PyProof.Rows L2
section
variable {X : Cx} {x : Str} {v : V} {pos : Pos}
theorem pe_globE (hg : Gl X x) (h : ∃ u, X.mg x = some u ∧ RelV v u) (hd : (x == ("__debug__" : Str)) = false := by decide) : PE X (.Name x pos) (tC v) := by
  obtain ⟨u, e, r⟩ := h
  exact pe_glob hg e r hd
end
def fdNo : FuncData := PySem.W.fnOf "" "" { posonlyargs := [], args := [], vararg := none, kwonlyargs := [], kw_defaults := [], kwarg := none, defaults := [] } [] { kind := .function, names := [], isGenerator := false, isCoroutine := false } .none .none .none .none none .none .none
/-- the function object that stands there -/
def fdOf (K : PySem.W.Frag) (p : Str × Option Str) : FuncData := match K.lookup (He.fAd K p) with
  | some ⟨_, _, .func fd, _⟩ => fd
  | _ => fdNo
theorem fdOf_eq {K : PySem.W.Frag} {p : Str × Option Str} {x qual : Str} {a : Arguments} {b : List Stmt} {sc : Scope} {dvs : List V} {kws : List (Str × V)} {fd : FuncData} (F : FunD K x qual a b sc dvs kws (He.fAd K p) fd) : fdOf K p = fd := by
  obtain ⟨oc, od, dV, kV, doc, pm, an, cdv, ct, osl, e, lk, _⟩ := F.ex
  unfold fdOf
  rw [lk]
abbrev Ex : Type := List (PySem.W.Frag → Bool)
def exB (ex : Ex) (K : PySem.W.Frag) : Bool := ex.all fun e => e K
abbrev AlM : Type := He.AlD × Bool
def obsM (n : Nat) (fa : List He.Fa) (fn : List He.DefD) (ex : Ex) (g : Addr → Option Obj) : AlM := (He.obsD fa fn (He.frG g (He.asD g n)), exB ex (He.frG g (He.asD g n)))
def hookM (n : Nat) (fa : List He.Fa) (fn : List He.DefD) (ex : Ex) : PySem.W.Hook where
  α := AlM
  obs := fun s => obsM n fa fn ex s.heap.get?
  val := fun _ => (He.valD fn, true)
  says := fun _ h => ∃ K : PySem.W.Frag, K.In h ∧ He.SaysD fa fn K ∧ exB ex K = true
  of := fun _ _ e => ⟨_, He.frG_in, congrArg (fun z : AlM => z.1) e, congrArg (fun z : AlM => z.2) e⟩
  keeps := fun _ _ _ ⟨K, hK, c⟩ k => ⟨K, PySem.W.Frag.In.keeps hK k, c⟩
theorem obsM_eq {n : Nat} {fa : List He.Fa} {fn : List He.DefD} {ex : Ex} {g : Addr → Option Obj} {s : Shared} (h : ∀ a, g a = s.heap.get? a) : obsM n fa fn ex g = (hookM n fa fn ex).obs s := by
  have e : g = s.heap.get? := funext h
  rw [e] <;> rfl
/-- what is known of the written part -/
structure Facts (fa : List He.Fa) (fn : List He.DefD) (ex : Ex) (K : PySem.W.Frag) (mg : Str → Option Value) : Prop where
  heap : ∃ h : Heap, K.In h ∧ h.Ns mainGlobals mg
  says : He.SaysD fa fn K
  more : exB ex K = true
section
variable {fa : List He.Fa} {fn : List He.DefD} {ex : Ex} {K : PySem.W.Frag} {mg : Str → Option Value} (T : Facts fa fn ex K mg)
include T
theorem Facts.glo (i : Nat) (x : Str) (h : fa[i]? = some (.glo x) := by rfl) : mg x = some (.ref (He.ga K x)) := by
  obtain ⟨hp, X, G⟩ := T.heap
  exact He.glo_ok X G (T.says.fact i h)
theorem Facts.free (i : Nat) (x : Str) (h : fa[i]? = some (.free x) := by rfl) : mg x = none := by
  obtain ⟨hp, X, G⟩ := T.heap
  exact He.free_ok X G (T.says.fact i h)
theorem Facts.int (i : Nat) (x : Str) (n : Int) (h : fa[i]? = some (.int x n) := by rfl) : ∃ u, mg x = some u ∧ RelV (.int n) u := by
  obtain ⟨hp, X, G⟩ := T.heap
  obtain ⟨t, e⟩ := He.int_ok X G (T.says.fact i h)
  exact ⟨_, e, t, rfl⟩
theorem Facts.str (i : Nat) (x z : Str) (h : fa[i]? = some (.str x z) := by rfl) : ∃ u, mg x = some u ∧ RelV (.str z) u := by
  obtain ⟨hp, X, G⟩ := T.heap
  obtain ⟨t, e⟩ := He.str_ok X G (T.says.fact i h)
  exact ⟨_, e, t, rfl⟩
theorem Facts.obj (i : Nat) (x : Str) (h : fa[i]? = some (.glo x) := by rfl) : ∃ u, mg x = some u ∧ RelV (.ref (He.ga K x)) u := ⟨_, T.glo i x h, rfl⟩
theorem Facts.exf (i : Nat) (e : PySem.W.Frag → Bool) (h : ex[i]? = some e := by rfl) : e K = true :=
  List.all_eq_true.mp (show ex.all (fun e => e K) = true from T.more) e (List.mem_of_getElem? h)
theorem Facts.fct (i : Nat) (f : He.Fa) (h : fa[i]? = some f := by rfl) : f.ok K = true := T.says.fact i h
theorem Facts.cls (i : Nat) (x : Str) (h : fa[i]? = some (.cls x) := by rfl) : Cls K (He.ga K x) := He.cls_ok (T.says.fact i h)
theorem Facts.noat (i : Nat) (x f : Str) (h : fa[i]? = some (.noat x f) := by rfl) : NoAttr K (He.ga K x) f := He.noat_ok (T.says.fact i h)
theorem Facts.meth (i : Nat) (x m : Str) (h : fa[i]? = some (.meth x m) := by rfl) : Meth K (He.ga K x) m (He.ma K (He.ga K x) m) := He.meth_ok (T.says.fact i h)
theorem Facts.mkr (i : Nat) (x : Str) (h : fa[i]? = some (.mkr x) := by rfl) : Mk K (He.ga K x) (He.ma K (He.ga K x) "__init__") := He.mkr_ok (T.says.fact i h)
theorem Facts.fun_ (i : Nat) (d : He.DefD) (h : fn[i]? = some d := by rfl) : FunD K d.name d.qual d.params d.body d.scope (d.dvs K) (d.kws K) (He.fAd K d.at_) (fdOf K d.at_) := by
  obtain ⟨fd, F⟩ := T.says.def_ i h
  rw [fdOf_eq F]
  exact F
end
/-- the law's row from the head's run (as the guide's smallest head with facts), the law's promise given by facts -/
theorem row_by {l : PySem.W.OpenLaw} {i : Nat} {fa : List He.Fa} {fn : List He.DefD} {ex : Ex} {d : DefRec} {k : Nat} {q : Program} {loose : List Str} {XP : (Str → Option Value) → Heap → Prop} {sp : PySem.W.Frag → Sp} {f : PySem.W.Frag → Addr} {fd : PySem.W.Frag → FuncData}
    (hn : l.most = some 63) (hdf : d.params.defaults = []) (hr : Room k callerA) (hdn : d.name = ("law" : Str))
    (hf : ∀ K mg, Facts fa fn ex K mg → mg ("law" : Str) = some (.ref (f K)))
    (hb : ∀ K mg, Facts fa fn ex K mg → ∀ (s : Shared) (u : Value), BindsTo s (fd K) ⟨[u], []⟩ [("script", u)])
    (hsp : ∀ (K : PySem.W.Frag) (H : Hp) (a : Addr) (ns : List Int), ns.length ≤ 63 → Only H → SqL K H a (ns.map V.int) → sp K [.ref a] H (fun v _ => v = .bl true) fun _ _ _ => False)
    (hF : ∀ (w : World) K mg base, Facts fa fn ex K mg → FnOk l.prog w K mg base CX0 k (f K) (fd K) ["script"] (sp K)) :
    PySem.W.WalkO q loose XP (hookM i fa fn ex).says l.row.toRowW d [] (fun f vs => PySem.call f vs) := by
  refine L2.walk_ofE (l := l) (n := 63) (k := k) (x := "script") (CX := L2.CX0) hn (by decide) hdf hr ?F (fun _ _ _ _ z => z)
  intro w mg fa' h Y G hmg0
  obtain ⟨K, KX, c, cx⟩ := Y
  have T : Facts fa fn ex K mg := ⟨⟨h, KX, G⟩, c, cx⟩
  rw [hdn, hf K mg T] at hmg0
  cases hmg0
  exact ⟨K, fd K, sp K, KX, hb K mg T, hsp K, fun base _ _ => hF w K mg base T⟩
end TK
/-! Own toolkit, part x: own exceptions whose __init__ begins with super().__init__(..). -/
namespace TK
open PySem PySem.Spec PyProof.Rows L2 NdefX
/-- an __init__ at f, of the class at D, whose only captured name is __class__ (its cell at cc) -/
structure SupF (prog : Program) (K : PySem.W.Frag) (mg : Str → Option Value) (f : Addr) (fd : FuncData) (F : NF) (D cc : Addr) : Prop where
  fn : ∃ oc od osl doc pm ctv, fd = F.fd doc pm ctv ∧ K.lookup f = some ⟨oc, od, .func fd, osl⟩
  code : PySem.W.codeIn K (.ref F.c) F.qual = true
  file : ∃ ccl cdd vs ccs file tf, K.lookup F.c = some ⟨ccl, cdd, .fields vs, ccs⟩ ∧ vs[2]? = some (.str file tf) ∧ ((prog.main.file : Str) == file) = true
  cl : F.cl = [(("__class__" : Str), cc)]
  cell : ∃ cl cld csl, K.lookup cc = some ⟨cl, cld, .cell (some (.ref D)), csl⟩
  clsD : ∃ cd, PySem.W.clsIn K D = some cd
  sup : mg "super" = none
  top : (prog.main.scope.names.lookup ("super" : Str)).isSome = false
/-- what super() of the class at D finds above, for an exception of the class at C: ValueError's own __init__ -/
structure SupV (K : PySem.W.Frag) (C D : Addr) : Prop where
  ox : OexC K C
  mro : PySem.W.mroIn K C (.ref D) = some true
  above : PySem.W.ks_superIn K C D "__init__" = some (some (.builtin "ValueError.__init__"))
  sub : PySem.W.subIn K (.ref C) (.type "ValueError") = some true
  opq : PySem.W.nsIn K PySem.cStatics "thirdparty.any" = some none
section
variable {X : Cx} {pins : List (Addr × Obj)} {σ : L2.St} {H : Hp} {s : Shared} {a C D cc f : Addr} {F : NF} {fd : FuncData}
/-- the wrapper of ValueError.__init__ is called: nothing of it is told -/
theorem wrapper_call {u : Addr} {us : List Value} {Q : Value → Shared → Prop} {A : Around} {E : Value → Shared → Prop} (T : OexC X.K C) (I : Inv X pins σ H s) (e : H a = some (exo a C none)) (hu : s.heap.get? u = some (PySem.W.kxs_mw "ValueError.__init__" a)) (hl : us.length ≤ sizeLine)
    (h : ∀ s', Inv X pins σ H s' → Q .none s') : wpAny (model X.prog X.w) A (call (.ref u) us) Q E s := by
  obtain ⟨nm, q, N, bs, bm, sn, sub, ab, col, dd, k0, k1, k2, k3, k5, hC, hbm⟩ := T.cls
  obtain ⟨t1, ho⟩ := exo_at I.hok e
  have hC' := I.kIn _ _ hC
  have eu : upd H a (exo a C none) = H := by
    funext b
    by_cases hb : b = a
    · rw [hb, upd_same, e]
    · rw [upd_ne hb]
  have fin : ∀ h' tk, (∀ b o, b ≠ a → s.heap.get? b = some o → h'.get? b = some o) → h'.get? a = some (PySem.W.excObj C tk none .none) → Q .none { s with heap := h' } := fun h' tk k hx => by
    have J := I.write (t' := s.toks) (x := a) (e := a) (o := exo a C none) (by rw [e]; exact True.intro) (.inl rfl) k ⟨_, hx⟩ (exo_ok hx)
    rw [eu] at J
    exact h _ J
  obtain ⟨hh, g, d, tk, os⟩ := s
  refine wpAny_call (codeAny_of_tree ?_)
  show wpAny _ A.in1 (callAny (.ref u) ⟨us, []⟩) _ _ _
  simp only [callAny]
  refine wpAny_bind (wpAny_load hu ?_)
  simp only [PySem.W.kxs_mw, show (Value.type "method-wrapper" == Value.type "method" || Value.type "method-wrapper" == Value.type "builtin_function_or_method" || Value.type "method-wrapper" == Value.type "method-wrapper") = true by decide, if_true]
  refine PySem.W.KFB.if_so (by decide) ?_
  refine wpAny_bind (PySem.W.check_bound_init F.excBase_ValueError.toExcCallFacts hC' ho rfl ?_)
  refine wpAny_bind (wpAny_pure (wpAny_pure ?_))
  refine ⟨plainId_quiet F.excBase_ValueError.init.plain _, codeAny_builtin F.excBase_ValueError.initEntry ?_⟩
  exact PySem.W.exc_init_tree (cls := .ref C) (t0 := t1) (dv := none) (c2 := .none) (c3 := .none) (b4 := .bool false) ho hl fun h' k e' t' => fin h' _ k e'
/-- the object that super() gives, __init__ asked of it, the call: where ValueError's own is found -/
theorem sup_stage {p0 p1 p2 p3 p4 : Pos} {e : Expr} {es : List Expr} {ta : TA} {D' : Ends} {pl : Sem Bool} (S : SupF X.prog X.K X.mg f fd F D cc) (V : SupV X.K C D)
    (he : X.env = envF F f X.env.locals) (hN : X.N[0]? = some ("self" : Str)) (hks : F.scope.names.lookup ("super" : Str) = some .globalImplicit) (hkc : F.scope.names.lookup ("__class__" : Str) = some .free) (hsl : F.scope.names.lookup ("self" : Str) = some .local)
    (hh : (F.params.posonlyargs ++ F.params.args).head?.map (·.arg) = some ("self" : Str))
    (I : Inv X pins σ H s) (h0 : σ[0]? = some (some (.ref a))) (ha : H a = some (exo a C none)) (hp : PA X (e :: es) ta)
    (h : ta σ H fun vs H1 => vs.length ≤ 1000 ∧ H1 a = some (exo a C none) ∧ D'.nx σ H1)
    (hc : eval (.Call (.Attribute (.Call (.Name "super" p0) [] [] p1) "__init__" p2) (e :: es) [] p3) X.env = (do
      let ov ← attributeBase (.Call (.Name "super" p0) [] [] p1) "__init__" X.env (eval (.Call (.Name "super" p0) [] [] p1) X.env)
      standAt p2.atName
      let (f, first) ← holding [ov] (getMethod ov "__init__" pl)
      callWith p3 f first (backTo p3 (starEach (e :: es) X.env)) []) := by rfl)
    (hs : starEach (e :: es) X.env = (false, eval e X.env) :: starEach es X.env := by rfl) (hpl : (backTo p3 (starEach es X.env)).any (·.1) = false := by rfl) (hsw : swapsWith (.Call (.Attribute (.Call (.Name "super" p0) [] [] p1) "__init__" p2) (e :: es) [] p3) none p4.line X.env = pure false := by rfl) :
    _root_.PySem.wpAt (model X.prog X.w) X.A (.func F.body X.env) (exec (.Expr (.Call (.Attribute (.Call (.Name "super" p0) [] [] p1) "__init__" p2) (e :: es) [] p3) p4) X.env) (SP X pins D') X.xe s := by
  obtain ⟨oc, od, osl, doc, pm, ctv, rfl, lk⟩ := S.fn
  obtain ⟨ccl, cdd, cvs, ccs, file, tf, lc, hvs, hfile⟩ := S.file
  obtain ⟨cl, cld, csl, lcell⟩ := S.cell
  obtain ⟨cdD, hD⟩ := S.clsD
  have XK := I.kIn
  obtain ⟨oD, hD1, hD2⟩ : ∃ oD, s.heap.get? D = some oD ∧ oD.data = .cls cdD := by
    unfold PySem.W.clsIn at hD
    split at hD
    · rename_i c d cd' sl ho
      cases hD
      exact ⟨_, XK _ _ ho, rfl⟩
    · cases hD
  obtain ⟨t1, hx⟩ := exo_at I.hok ha
  obtain ⟨m, hns, hl⟩ := I.loc
  obtain ⟨u, ru, lu⟩ := hl 0 ("self" : Str) _ hN h0 (.inl (by rw [he]; exact hsl))
  obtain rfl : u = Value.ref a := ru
  have hk : X.env.scope.kind = .function := I.ok.kind
  have hm : m ("self" : Str) = some (.ref a) := by
    rcases lu with ⟨_, hm⟩ | ⟨hk2, _⟩
    · exact hm
    · have e1 : X.env.kindOf ("self" : Str) = some .local := by rw [he]; exact hsl
      rw [e1] at hk2
      rcases hk2 with z | z <;> cases z
  obtain ⟨ar, har, harg⟩ := Option.map_eq_some_iff.mp hh
  have hfu : X.env.func = some f := by rw [he]
  have hco : X.env.code = .ref F.c := by rw [he]
  have k1 : X.env.kindOf ("super" : Str) = some .globalImplicit := by rw [he]; exact hks
  have k2 : X.env.kindOf ("__class__" : Str) = some .free := by rw [he]; exact hkc
  have k3 : X.env.kindOf ("self" : Str) = some .local := by rw [he]; exact hsl
  have k4 : X.env.cells.lookup ("__class__" : Str) = some cc := by rw [he]; show F.cl.lookup _ = _; rw [S.cl]; rfl
  obtain ⟨mb, hb1, hb2⟩ := I.mod.blt
  have lf := XK _ _ lk
  have lcd := XK _ _ lc
  have lcc := XK _ _ lcell
  obtain ⟨hh', g, d, tk, os⟩ := s
  refine ks_wpAt_Expr_any ?_ I.quiet hsw
  refine ks_wpAt_MethodCall ?_ hc
  refine ks_wpAt_super_base (env := X.env) k1 k2 rfl hfu lf rfl har hco lcd rfl hvs hfile S.top ?_
  refine PySem.W.ks_loadName_global hk k1 (Calls.loadGlobal_builtin (env := X.env) (by rw [I.ok.glob]; exact I.mod.glob.keeps I.bk) S.sup (by rw [I.ok.blt]; exact hb1.keeps I.bk) ((hb2 _ (by decide +kernel)).trans (by decide +kernel : bootBuiltins "super" = some (.type "super"))) ⟨rfl, ?_⟩)
  refine wpAny_loadName_free hk k2 k4 ⟨_, lcc, rfl⟩ ?_
  rw [harg]
  refine wpAny_loadName_local hk k3 hns hm ?_
  refine ks_wpAny_isType_cls hD1 hD2 ⟨rfl, ?_⟩
  refine ks_wpAny_call_super hD1 hD2 hx rfl (fun c e => by cases e) (PySem.W.looks_mroIn XK V.mro) (fun h1 eso kso => ?_)
  have I1 : Inv X pins σ H ⟨h1, g, d, tk, os⟩ := I.kept (t' := tk) kso
  have nso : H hh'.objs.size = none := I.hok.fresh (Nat.le_refl _)
  cases hcd : PySem.W.clsIn X.K C with
  | none =>
    have z := V.above
    unfold PySem.W.ks_superIn at z
    rw [hcd] at z
    cases z
  | some cd =>
    have z := V.above
    unfold PySem.W.ks_superIn at z
    rw [hcd] at z
    have XK1 := I1.kIn
    have ia : (⟨h1, g, d, tk, os⟩ : Shared).heap.get? a = some (PySem.W.excObj C t1 none .none) := kso _ _ hx
    refine PySem.W.kxs_getMethod PySem.W.kxs_ValueError eso (PySem.W.looks_opaque XK1 V.opq) (l₀ := cd.mro) (fun A Q E s k q => wpAny_bind ((PySem.W.looks_clsIn XK1 hcd) A _ E s k (wpAny_pure q))) rfl XK1 z ?_ ?_ rfl ?_
    · exact (show PySem.W.InstAt h1 a (PySem.W.excObj C t1 none .none) C none from ⟨ia, rfl, rfl, trivial⟩).type.andThen (PySem.W.looks_subIn XK1 V.sub)
    · exact PySem.W.ks_ne XK1 (show PySem.W.InstAt h1 a (PySem.W.excObj C t1 none .none) C none from ⟨ia, rfl, rfl, trivial⟩) hcd
    · have k2 : ∀ b o, h1.get? b = some o → (h1.push (PySem.W.kxs_mw "ValueError.__init__" a)).get? b = some o := fun b o e => Heap.get?_push_of_some _ e
      have gu : (h1.push (PySem.W.kxs_mw "ValueError.__init__" a)).get? h1.objs.size = some (PySem.W.kxs_mw "ValueError.__init__" a) := Heap.get?_push_at rfl rfl
      have nu : H h1.objs.size = none := I1.hok.fresh (Nat.le_refl _)
      have I2 : Inv X pins σ H ⟨h1.push (PySem.W.kxs_mw "ValueError.__init__" a), g, d, tk + 1, os⟩ := I1.kept (t' := tk + 1) k2
      have I3 : Inv X ((h1.objs.size, PySem.W.kxs_mw "ValueError.__init__" a) :: pins) σ H ⟨h1.push (PySem.W.kxs_mw "ValueError.__init__" a), g, d, tk + 1, os⟩ := I2.pins_of fun p hp => by
        rcases List.mem_cons.mp hp with rfl | z
        · exact ⟨gu, nu, Nat.ne_of_gt I1.lt, I1.nofs (Nat.le_refl _), fun v e => by cases e⟩
        · exact I2.pin p (List.mem_append_right _ z)
      refine PySem.W.kxs_callWith1 (h₀ := X.base) (L := X.env.locals) (news := [(h1.objs.size, PySem.W.kxs_mw "ValueError.__init__" a)]) (i := "ValueError.__init__") (x := a) (fun p hp => ?_) List.mem_cons_self (thn (hp.run p3 _ _ σ H _ I3 h) fun us s2 q => ?_) hs hpl
      · obtain rfl : p = (h1.objs.size, PySem.W.kxs_mw "ValueError.__init__" a) := List.mem_singleton.mp hp
        refine ⟨gu, Nat.ne_of_gt I1.lt, ?_⟩
        exact Heap.get?_none_of_le (Nat.le_trans I.ok.bsz I1.sz)
      · obtain ⟨vs, H1, I4, rv, hz, e1, q1⟩ := q
        have hu := (I4.pin (h1.objs.size, PySem.W.kxs_mw "ValueError.__init__" a) (List.mem_append_right _ List.mem_cons_self)).1
        refine ⟨hu, wrapper_call V.ox I4 e1 hu ?_ fun s' I5 => ?_⟩
        · rw [← Paired.length rv, sizeLine_eq]; omega
        · exact ⟨σ, H1, I5.pins_of fun p hp => I5.pin p (List.mem_append_right _ (List.mem_cons_of_mem _ hp)), q1⟩
end
theorem look1 {α : Type} {y x : Str} {c d : α} (h : List.lookup y [(x, c)] = some d) : y = x ∧ d = c := by
  rw [List.lookup_cons, List.lookup_nil] at h
  cases e : y == x with
  | true =>
    rw [e] at h
    exact ⟨beq_iff_eq.mp e, (Option.some.inj h).symm⟩
  | false =>
    rw [e] at h
    cases h
section
variable {CX : CXT} {P : Program} {w : World} {K : PySem.W.Frag} {mg : Str → Option Value} {base : Heap} {N ps : List Str} {F : NF} {fd : FuncData} {f D cc : Addr} {k : Nat} {sp : Sp} {p0 p1 p2 p3 p4 : Pos} {e : Expr} {es : List Expr} {rest : List Stmt}
/-- an __init__ whose first statement is super().__init__(e, ..), above it ValueError's own -/
theorem fn_super (S : SupF P K mg f fd F D cc) (hS : NScope N ps ["__class__"] F.scope) (hbd : F.body = .Expr (.Call (.Attribute (.Call (.Name "super" p0) [] [] p1) "__init__" p2) (e :: es) [] p3) p4 :: rest)
    (hN : N[0]? = some ("self" : Str)) (hks : F.scope.names.lookup ("super" : Str) = some .globalImplicit) (hkc : F.scope.names.lookup ("__class__" : Str) = some .free) (hsl : F.scope.names.lookup ("self" : Str) = some .local)
    (hh : (F.params.posonlyargs ++ F.params.args).head?.map (·.arg) = some ("self" : Str)) (len : ∀ vs H Q E, sp vs H Q E → vs.length = ps.length)
    (hbody : ∀ (A : Around) (outer : List Env) (s : Shared) (H : Hp) (vs : List V) (Q : VK) (E : XK), Room k (A.deeper (envF F f s.heap.objs.size)) → sp vs H Q E →
      ∃ (a C : Addr) (vs' : List V) (ta : TA) (t : TS), vs = .ref a :: vs' ∧ SupV K C D ∧ H a = some (exo a C none) ∧ PA (ncx CX P w K mg base N F f A outer s H E) (e :: es) ta ∧ PSs (ncx CX P w K mg base N F f A outer s H E) rest t ∧
        ta (startF N vs [none]) H fun us H1 => us.length ≤ 1000 ∧ H1 a = some (exo a C none) ∧ t { nx := fun _ H' => Q .non H', rt := Q } (startF N vs [none]) H1)
    (hc : ∀ env : Env, ∃ pl, eval (.Call (.Attribute (.Call (.Name "super" p0) [] [] p1) "__init__" p2) (e :: es) [] p3) env = (do
      let ov ← attributeBase (.Call (.Name "super" p0) [] [] p1) "__init__" env (eval (.Call (.Name "super" p0) [] [] p1) env)
      standAt p2.atName
      let (f, first) ← holding [ov] (getMethod ov "__init__" pl)
      callWith p3 f first (backTo p3 (starEach (e :: es) env)) []) := by exact fun env => ⟨_, rfl⟩)
    (hs : ∀ env : Env, starEach (e :: es) env = (false, eval e env) :: starEach es env := by exact fun env => rfl) (hpl : ∀ env : Env, (backTo p3 (starEach es env)).any (·.1) = false := by exact fun env => rfl)
    (hsw : ∀ env : Env, swapsWith (.Call (.Attribute (.Call (.Name "super" p0) [] [] p1) "__init__" p2) (e :: es) [] p3) none p4.line env = pure false := by exact fun env => rfl) :
    FnOk P w K mg base CX (k + 1) f fd ps sp := by
  refine ⟨len, fun A outer s H args us vs Q E hr e0 hbi r hsp => ?_⟩
  have hl := len _ _ _ _ hsp
  obtain ⟨oc, od, osl, doc, pm, ctv, rfl, lk⟩ := S.fn
  obtain ⟨cl, cld, csl, lcell⟩ := S.cell
  have hK : K.In s.heap := fun b o q => (e0.bs b o (e0.mod.kin b o q)).1
  have lim : s.heap.NoLimit := e0.mod.nolimit.keeps fun b o e => (e0.bs b o e).1
  have ccat := e0.bs _ _ (e0.mod.kin _ _ lcell)
  have C : CellsAt F.cl ["__class__"] [(none : Option V)] s.heap H := by
    refine ⟨rfl, fun y c z => ?_, fun x y c z1 z2 => ?_, fun i y z => ?_⟩
    · rw [S.cl] at z
      obtain ⟨rfl, rfl⟩ := look1 z
      exact ⟨ccat.2, _, _, ccat.1, rfl⟩
    · rw [S.cl] at z1 z2
      exact (look1 z1).1.trans (look1 z2).1.symm
    · match i, z with
      | 0, z =>
        cases z
        refine ⟨cc, by rw [S.cl]; rfl, fun v z => ?_⟩
        cases z
      | i + 1, z => simp at z
  refine ks_codeAny_call_defAt (fd := F.fd doc pm ctv) hr.depth (hK _ _ lk) rfl lim (PySem.W.codeRec_of hK S.code) rfl hbi hS.nocell (fun x hx => hS.par _ (List.of_mem_zip hx).1) (fun h₁ hns kp => ?_) hS.co hS.gen hS.kind
  have I : Inv (ncx CX P w K mg base N F f A outer s H E) [] (startF N vs [none]) H { s with heap := h₁, toks := s.toks + (ps.zip us).length } := inv_startN hS hr.hd e0 hl r C hns kp
  obtain ⟨a, Cc, vs', ta, t, rfl, hV, ha, pa, pt, q⟩ := hbody A outer s H vs Q E (hr.deeper _) hsp
  have fin : ∀ {σ' : L2.St} {H' : Hp} {v : V} {u : Value} {s' : Shared}, Inv (ncx CX P w K mg base N F f A outer s H E) [] σ' H' s' → L2.RelV v u → Q v H' → CE outer P w H s Q u s' :=
    fun {σ' H' v u s'} J rv q => ⟨v, H', J.os, J.bare, J.base, J.hok, rv, q⟩
  have go : _root_.PySem.wpAt (model P w) (A.deeper (envF F f s.heap.objs.size)) (.func F.body (envF F f s.heap.objs.size)) (execs F.body (envF F f s.heap.objs.size)) (SP (ncx CX P w K mg base N F f A outer s H E) [] { nx := fun _ H' => Q .non H', rt := Q })
      (ncx CX P w K mg base N F f A outer s H E).xe { s with heap := h₁, toks := s.toks + (ps.zip us).length } := by
    obtain ⟨pl, hc'⟩ := hc (envF F f s.heap.objs.size)
    rw [show execs F.body (envF F f s.heap.objs.size) = execs (.Expr (.Call (.Attribute (.Call (.Name "super" p0) [] [] p1) "__init__" p2) (e :: es) [] p3) p4 :: rest) (envF F f s.heap.objs.size) by rw [hbd]]
    refine ks_wpAt_execs_cons (ks_wpAt_mono (sup_stage (X := ncx CX P w K mg base N F f A outer s H E) (D' := { nx := fun σ' H' => t { nx := fun _ H' => Q .non H', rt := Q } σ' H', rt := Q }) (pl := pl) S hV rfl hN hks hkc hsl hh I rfl ha pa q hc' (hs _) (hpl _) (hsw _)) (fun fl s' hq => ?_) fun _ _ z => z)
    cases fl with
    | next =>
      obtain ⟨σ', H', J, q'⟩ := hq
      exact wpAt_of_wpAny (pt.run [] _ σ' H' _ J q')
    | ret u => exact hq
    | brk =>
      obtain ⟨_, _, _, z⟩ := hq
      exact z.elim
    | cont =>
      obtain ⟨_, _, _, z⟩ := hq
      exact z.elim
  refine ks_wpAt_mono go (fun fl s' hq => ?_) fun _ _ z => z
  cases fl with
  | next =>
    obtain ⟨σ', H', J, q⟩ := hq
    exact fin (v := V.non) (u := Value.none) J rfl q
  | ret u =>
    obtain ⟨v, σ', H', J, rv, q⟩ := hq
    exact fin J rv q
  | brk =>
    obtain ⟨_, _, _, z⟩ := hq
    exact z.elim
  | cont =>
    obtain ⟨_, _, _, z⟩ := hq
    exact z.elim
end
end TK
/-! Own toolkit, part y: a caught error of an own class that has fields: isinstance of it. -/
namespace TK
open PySem PySem.Spec PyProof.Rows L2 PySem.W
section
variable {prog : Program} {w : World} {A : Around} {E : Value → Shared → Prop} {s : Shared} {K : PySem.W.Frag} {x D : Addr} {ox : Obj} {od : Option Obj}
theorem exc_clsD {Q : Option Value → Shared → Prop} (T : ExcC K D) (X : K.In s.heap) (I : InstAt s.heap x ox D od) (h : Q (some (.ref D)) { s with toks := s.toks + 1 }) :
    wpAny (model prog w) A (getAttr? (.ref x) "__class__") Q E s := by
  have hc : (clsIn K D).isSome = true := by obtain ⟨cd, z, _⟩ := any_some T.hd; rw [z]; rfl
  have hf : findObj K D od "__class__" = some (.bind (.builtin "getset_descriptor.__get__") (.builtin "object.__class__")) := by
    cases od with
    | none => exact findObj_dataN hc T.ha T.hn T.ht
    | some od => exact findObj_data hc T.ha T.hn T.ht
  obtain ⟨hp, gs, dr, tk, os⟩ := s
  have L0 := I.type (M := model prog w); have L1 := looks_findIn (M := model prog w) X T.hg; have L2 := looks_findIn (M := model prog w) X T.hk; have L3 := looks_find (M := model prog w) X I hf
  have ne2 : (Value.builtin "BaseException.__getattribute__" == Value.builtin "object.__getattribute__") = false := by decide +kernel
  unfold getAttr? getAttrBy? getAttrBy; refine wpAny_bind (wpAny_mkText (wpAny_bind (wpAny_attempt (wpAny_holding (wpAny_bind (L0.at (wpAny_bind (L1.at ?_))))))))
  change wpAny _ A (ite ((onTheHeap (Value.ref D) && Value.builtin "BaseException.__getattribute__" == Value.builtin "object.__getattribute__") = true) _ _) _ _ _
  rw [show (onTheHeap (Value.ref D) && Value.builtin "BaseException.__getattribute__" == Value.builtin "object.__getattribute__") = false by rw [ne2]; rfl, if_neg Bool.false_ne_true]
  unfold getAttrByItsOwn hookBefore; refine wpAny_bind ?_
  rw [if_pos (show onTheHeap (Value.ref D) = true from rfl)]; refine L2.at (wpAny_bind (wpAny_attempt (wpAny_holding ?_)))
  unfold callGetattribute
  rw [show (false && onTheHeap (Value.builtin "BaseException.__getattribute__")) = false from rfl, if_neg Bool.false_ne_true]
  unfold boundAndCalled; rw [PySem.F.excAttr_ValueError.ga.bind (.ref x)]; refine wpAny_bind (wpAny_pure ?_)
  refine wpAny_call (pos := [.ref x, .str "__class__" tk]) (codeAny_call_builtin PySem.F.excAttr_ValueError.ga.plain PySem.F.entry_bexc_ga ?_)
  refine @check_slot (model prog w) _ _ ⟨hp, gs, dr, tk + 1, os⟩ "BaseException.__getattribute__" "BaseException" "__getattribute__" (.ref x) [.str "__class__" tk] [] _ (by decide +kernel) (by decide +kernel) (L0.andThen (looks_subIn X T.hs)) (PySem.F.args_bexc_ga (.ref x) (.str "__class__" tk)) ?_
  unfold Builtin.«object.__getattribute__»
  refine wpAny_bind (wpAny_of_eq (a := ((Value.ref x : Value), [Value.str "__class__" tk])) (by first | rfl | (simp only [slotArgs]; rfl)) (wpAny_bind (wpAny_pure (wpAny_bind (L0.at (wpAny_bind (L3.at ?_)))))))
  refine wpAny_bind (wpAny_holding (wpAny_call (class_get (s := ⟨hp, gs, dr, tk + 1, os⟩) (ox := ox) (od := od) X I T.hm (wpAny_pure ?_))))
  show wpAny _ _ (handedOut (.ref D)) _ _ _
  rw [handedOut_of (v := .ref D) rfl]; first | exact wpAny_pure (wpAny_pure h) | exact wpAny_pure h | exact wpAny_pure (wpAny_bind (wpAny_pure (wpAny_pure h)))
theorem clsD_isType {M : Model} {h : Heap} (T : ExcC K D) (X : K.In h) : Looks M h (isType (.ref D)) true := by
  obtain ⟨cd, hc, _⟩ := any_some T.hd
  unfold clsIn at hc
  split at hc
  · rename_i ho
    exact fun A' Q' E' s' k q => ks_wpAny_isType_cls (h := s'.heap) (k _ _ (X _ _ ho)) rfl q
  · cases hc
theorem kitx_excD (T : ExcC K D) : KitX K (.ref x) (.ref D) (fun h => ∃ od, InstAt h x ox D od) where
  ty := fun _ _ _ ⟨_, I⟩ => I.type
  it := fun M h X _ => clsD_isType T X
  ne := (handS_kitx_exc (x := x) (ox := ox) T.hg T.hk T.hs T.hd T.ha T.hn T.ht T.hm).ne
  ca := fun X ⟨_, I⟩ k => exc_clsD T X I k
end
/-- isinstance(e, c), e the caught error at a, its class cls, its dict dd -/
def rIsD (K : PySem.W.Frag) (a : Addr) (cls : Value) (dd : Option Addr) : List V → Hp → VK → Prop := fun xs H Q => ∃ (D d : Addr) (c : V) (cv : Value) (b : Bool) (fs : List (Str × V)), cls = .ref D ∧ dd = some d ∧ ExcC K D ∧ xs = [.ref a, c] ∧ ClsV c cv ∧
  PySem.W.kitOne K (.ref D) cv = some b ∧ H d = some (.xd fs) ∧ Q (.bl b) H
theorem call_isD {X : Cx} {a : Addr} {cls : Value} {dd : Option Addr} {oe : Obj} {pn : List (Addr × Obj)} (hz : Zc cls dd oe) (hf : ∃ vs, oe.data = .fields vs) : CallR (X.suite a ((a, oe) :: pn)) (.builtin "isinstance") (rIsD X.K a cls dd) := by
  intro pins s σ H xs us Q I r h
  obtain ⟨D, d, c, cv, b, fs, rfl, rfl, T, rfl, hcv, e, hx, q⟩ := h
  obtain ⟨u1, u2, rfl, r1, r2⟩ : ∃ u1 u2, us = [u1, u2] ∧ RelV (.ref a) u1 ∧ RelV c u2 := by
    cases r with
    | cons r1 rr => cases rr with
      | cons r2 rr => cases rr; exact ⟨_, _, rfl, r1, r2⟩
  obtain rfl : u1 = Value.ref a := r1
  obtain rfl := hcv.eq r2
  obtain ⟨hget, _⟩ := I.pin (a, oe) (List.mem_append.mpr (.inl List.mem_cons_self))
  obtain ⟨vs, hv⟩ := hf
  obtain ⟨mA, hns, _⟩ := (show ObjOk X.prog X.w H s.heap d (.xd fs) from I.hok d _ hx)
  obtain ⟨od, ho, _⟩ := lookIn_ns hns
  have J : InstAt s.heap a oe D (some od) := ⟨hget, hz.1, by unfold PySem.W.notCls; rw [hv] <;> rfl, by rw [hz.2]; exact ho⟩
  exact PySem.W.kia_one (kitx_excD (ox := oe) T) I.kIn ⟨_, J⟩ e (fun z => nomatch z) fun tk => ⟨.bl b, H, I.kept (t' := tk) fun _ _ z => z, rfl, q⟩
end TK
/-! Own toolkit, part z: own exceptions with one or two fields: their __init__, their making. -/
namespace TK
open PySem PySem.Spec PyProof.Rows L2 NdefX
/-- what such an __init__ promises: the fields are kept -/
def spI (K : PySem.W.Frag) (D : Addr) (fs : List Str) : Sp := fun vs H Q _ => ∃ (a C : Addr) (xs : List V), vs = .ref a :: xs ∧ xs.length = fs.length ∧ H a = some (exo a C none) ∧ SupV K C D ∧ (∀ f ∈ fs, PySem.W.findIn K (.ref C) f = some none) ∧
  ∀ d, H d = none → d ≠ a → Q .non (upd (upd H a (exo a C (some d))) d (exd d (fs.zip xs).reverse))
theorem upd_swap {H : Hp} {a b : Addr} {o u : HO} (h : a ≠ b) : upd (upd H a o) b u = upd (upd H b u) a o := by
  funext c
  by_cases h1 : c = a
  · subst h1
    rw [upd_ne h, upd_same, upd_same]
  · by_cases h2 : c = b
    · subst h2
      rw [upd_same, upd_ne h1, upd_same]
    · rw [upd_ne h2, upd_ne h1, upd_ne h1, upd_ne h2]
section
variable {CX : CXT} {P : Program} {w : World} {K : PySem.W.Frag} {mg : Str → Option Value} {base : Heap} {F : NF} {fd : FuncData} {f D cc : Addr} {k : Nat} {p0 p1 p2 p3 p4 q1 q2 q3 q4 r0 r1 r2 r3 r4 : Pos} {msg f1 f2 : Str} {j : Nat}
/-- self.x = x, in such an __init__ -/
theorem ps_ownfld {X : Cx} {i : Nat} {g : Str} (h0 : X.N[0]? = some ("self" : Str)) (hv0 : Vis X.env.scope "self") (hi : X.N[i]? = some g) (hv : Vis X.env.scope g) (hd : (g == ("__debug__" : Str)) = false) (hcd : (g == ("__classdict__" : Str)) = false)
    (hs : swapsWith (.Name g q3) (some (.Attribute (.Name "self" q1) g q2)) q4.line X.env = pure false) :
    PS X (.Assign [.Attribute (.Name "self" q1) g q2] (.Name g q3) q4) (tOst X.K g (tVar 0) (tVar i)) := ps_ost (pe_var h0 hv0) (pe_var hi hv hd hcd) hs
theorem fn_init1 (S : SupF P K mg f fd F D cc) (hS : NScope ["self", f1, "__class__"] ["self", f1] ["__class__"] F.scope)
    (hbd : F.body = [.Expr (.Call (.Attribute (.Call (.Name "super" p0) [] [] p1) "__init__" p2) [.Constant (.str msg) j r0] [] p3) p4, .Assign [.Attribute (.Name "self" q1) f1 q2] (.Name f1 q3) q4])
    (hks : F.scope.names.lookup ("super" : Str) = some .globalImplicit) (hh : (F.params.posonlyargs ++ F.params.args).head?.map (·.arg) = some ("self" : Str)) (hd1 : (f1 == ("__debug__" : Str)) = false) (hc1 : (f1 == ("__classdict__" : Str)) = false)
    (hw1 : ∀ env : Env, swapsWith (.Name f1 q3) (some (.Attribute (.Name "self" q1) f1 q2)) q4.line env = pure false := by exact fun env => rfl)
    (hc : ∀ env : Env, ∃ pl, eval (.Call (.Attribute (.Call (.Name "super" p0) [] [] p1) "__init__" p2) [.Constant (.str msg) j r0] [] p3) env = (do
      let ov ← attributeBase (.Call (.Name "super" p0) [] [] p1) "__init__" env (eval (.Call (.Name "super" p0) [] [] p1) env)
      standAt p2.atName
      let (f, first) ← holding [ov] (getMethod ov "__init__" pl)
      callWith p3 f first (backTo p3 (starEach [.Constant (.str msg) j r0] env)) []) := by exact fun env => ⟨_, rfl⟩) :
    FnOk P w K mg base CX (k + 1) f fd ["self", f1] (spI K D [f1]) := by
  have hsl := hS.par "self" (by simp)
  have hfl := hS.par f1 (by simp)
  refine fn_super S hS hbd rfl hks (hS.frk "__class__" (by simp)) hsl hh (fun vs H Q E h => ?_) (fun A outer s H vs Q E hr h => ?_) hc
  · obtain ⟨a, C, xs, rfl, hl, _⟩ := h
    simp [hl]
  · obtain ⟨a, C, xs, rfl, hl, ha, hV, hn, q⟩ := h
    obtain ⟨x, rfl⟩ : ∃ x, xs = [x] := by
      match xs, hl with
      | [x], _ => exact ⟨x, rfl⟩
    refine ⟨a, C, [x], _, _, rfl, hV, ha, pa_cons pe_str pa_nil, pss_cons (ps_ownfld (i := 1) rfl (.inl hsl) rfl (.inl hfl) hd1 hc1 (hw1 _)) pss_nil, ?_⟩
    refine ⟨by simp, ha, ?_⟩
    refine ⟨x, rfl, .ref a, rfl, a, C, rfl, hV.ox, hn f1 (by simp), .inl ⟨ha, fun d hd ne => ?_⟩⟩
    have z := q d hd ne
    rw [upd_swap (Ne.symm ne)] at z
    exact z
theorem fn_init2 (S : SupF P K mg f fd F D cc) (hS : NScope ["self", f1, f2, "__class__"] ["self", f1, f2] ["__class__"] F.scope)
    (hbd : F.body = [.Expr (.Call (.Attribute (.Call (.Name "super" p0) [] [] p1) "__init__" p2) [.Constant (.str msg) j r0] [] p3) p4, .Assign [.Attribute (.Name "self" q1) f1 q2] (.Name f1 q3) q4, .Assign [.Attribute (.Name "self" r1) f2 r2] (.Name f2 r3) r4])
    (hks : F.scope.names.lookup ("super" : Str) = some .globalImplicit) (hh : (F.params.posonlyargs ++ F.params.args).head?.map (·.arg) = some ("self" : Str)) (hd1 : (f1 == ("__debug__" : Str)) = false) (hc1 : (f1 == ("__classdict__" : Str)) = false) (hd2 : (f2 == ("__debug__" : Str)) = false) (hc2 : (f2 == ("__classdict__" : Str)) = false)
    (hw1 : ∀ env : Env, swapsWith (.Name f1 q3) (some (.Attribute (.Name "self" q1) f1 q2)) q4.line env = pure false := by exact fun env => rfl)
    (hw2 : ∀ env : Env, swapsWith (.Name f2 r3) (some (.Attribute (.Name "self" r1) f2 r2)) r4.line env = pure false := by exact fun env => rfl)
    (hc : ∀ env : Env, ∃ pl, eval (.Call (.Attribute (.Call (.Name "super" p0) [] [] p1) "__init__" p2) [.Constant (.str msg) j r0] [] p3) env = (do
      let ov ← attributeBase (.Call (.Name "super" p0) [] [] p1) "__init__" env (eval (.Call (.Name "super" p0) [] [] p1) env)
      standAt p2.atName
      let (f, first) ← holding [ov] (getMethod ov "__init__" pl)
      callWith p3 f first (backTo p3 (starEach [.Constant (.str msg) j r0] env)) []) := by exact fun env => ⟨_, rfl⟩) :
    FnOk P w K mg base CX (k + 1) f fd ["self", f1, f2] (spI K D [f1, f2]) := by
  have hsl := hS.par "self" (by simp)
  have hfl := hS.par f1 (by simp)
  have hfl2 := hS.par f2 (by simp)
  refine fn_super S hS hbd rfl hks (hS.frk "__class__" (by simp)) hsl hh (fun vs H Q E h => ?_) (fun A outer s H vs Q E hr h => ?_) hc
  · obtain ⟨a, C, xs, rfl, hl, _⟩ := h
    simp [hl]
  · obtain ⟨a, C, xs, rfl, hl, ha, hV, hn, q⟩ := h
    obtain ⟨x, y, rfl⟩ : ∃ x y, xs = [x, y] := by
      match xs, hl with
      | [x, y], _ => exact ⟨x, y, rfl⟩
    refine ⟨a, C, [x, y], _, _, rfl, hV, ha, pa_cons pe_str pa_nil, pss_cons (ps_ownfld (i := 1) rfl (.inl hsl) rfl (.inl hfl) hd1 hc1 (hw1 _)) (pss_cons (ps_ownfld (i := 2) rfl (.inl hsl) rfl (.inl hfl2) hd2 hc2 (hw2 _)) pss_nil), ?_⟩
    refine ⟨by simp, ha, ?_⟩
    refine ⟨x, rfl, .ref a, rfl, a, C, rfl, hV.ox, hn f1 (by simp), .inl ⟨ha, fun d hd ne => ?_⟩⟩
    refine ⟨y, rfl, .ref a, rfl, a, C, rfl, hV.ox, hn f2 (by simp), .inr ⟨d, [(f1, x)], upd_same, by rw [upd_ne ne, upd_same], by simp, ?_⟩⟩
    have z := q d hd ne
    rw [upd_swap (Ne.symm ne)] at z
    rw [upd_swap (Ne.symm ne), upd_upd]
    exact z
end
section
variable {X : Cx} {CX : CXT} {x : Str} {C fI : Addr} {k : Nat} {fd : FuncData} {ps fs : List Str} {e : Expr} {es : List Expr} {ta : TA} {p pos : Pos}
/-- C(e, ..), C a class with such an __init__ -/
theorem pmk_flds (V : SupV X.K C C) (iC : PySem.W.findIn X.K (.ref C) "__init__" = some (some (.ref fI))) (tI : PySem.W.typeIn X.K (.ref fI) = some (.type "function")) (hn : ∀ f ∈ fs, PySem.W.findIn X.K (.ref C) f = some none)
    (F1 : FnOk X.prog X.w X.K X.mg X.base CX k fI fd ps (spI X.K C fs)) (hr : Room (k + 1) X.A) (hb : Binds X.K fd ps []) (hx : Passes CX X (fun _ _ _ => False)) (hg : Gl X x) (hm : X.mg x = some (.ref C)) (ha : PA X (e :: es) ta)
    (hdb : (x == ("__debug__" : Str)) = false := by decide) (he : starEach (e :: es) X.env = (false, eval e X.env) :: starEach es X.env := by rfl) (hpl : (backTo pos (starEach es X.env)).any (·.1) = false := by rfl) :
    PMk X (.Call (.Name x p) (e :: es) [] pos) (fun σ H Q => ta σ H fun vs H1 => vs.length = fs.length ∧ vs.length ≤ 1000 ∧ ∀ d, H1 d = none → Q (.ref C) (some d) (upd H1 d (.xd (fs.zip vs).reverse))) := by
  intro pins s σ H Q I h
  have ha' : PA X (e :: es) (fun σ' H' R => σ' = σ ∧ H' = H ∧ ∀ vs H1, (vs.length = fs.length ∧ vs.length ≤ 1000 ∧ ∀ d, H1 d = none → Q (.ref C) (some d) (upd H1 d (.xd (fs.zip vs).reverse))) → R vs H1) :=
    ⟨fun pos pins s σ' H' R I' z => by
      obtain ⟨rfl, rfl, imp⟩ := z
      exact thn (ha.run pos pins s _ _ _ I' h) fun us s1 ⟨vs, H1, I1, r1, q1⟩ => ⟨vs, H1, I1, r1, imp _ _ q1⟩⟩
  refine pmk_oex (dvs := []) V.ox iC tI F1 hr hb .nil hx hg hm ha' hdb he hpl pins s σ H Q I ⟨rfl, rfl, fun vs H1 ⟨hl, hz, q⟩ => ⟨hz, fun a hna => ⟨a, C, vs, by rw [List.append_nil], hl, upd_same, V, hn, fun d hd ne => ?_⟩⟩⟩
  have hd1 : H1 d = none := by rw [upd_ne ne] at hd; exact hd
  refine ⟨rfl, d, (fs.zip vs).reverse, by rw [upd_ne (Ne.symm ne), upd_same], upd_same, hd1, ?_⟩
  have e : upd (del (upd (upd (upd H1 a (exo a C none)) a (exo a C (some d))) d (exd d (fs.zip vs).reverse)) a) d (.xd (fs.zip vs).reverse) = upd H1 d (.xd (fs.zip vs).reverse) := by
    funext b
    by_cases h1 : b = d
    · subst h1
      rw [upd_same, upd_same]
    · rw [upd_ne h1, upd_ne h1]
      by_cases h2 : b = a
      · subst h2
        rw [del_same, hna]
      · rw [del_ne h2, upd_ne h1, upd_ne h2, upd_ne h2]
  rw [e]
  exact q d hd1
end
end TK
/-! Own toolkit, part i: what the top has left of own exception classes, as yes-or-no facts. -/
namespace TK
open PySem PySem.Spec PyProof.Rows L2 NdefX
theorem ba2 {a b : Bool} (h : (a && b) = true) : a = true ∧ b = true := Bool.and_eq_true_iff.mp h
def oexB (K : PySem.W.Frag) (C : Addr) : Bool := (match K.lookup C with
  | some ⟨.type ty, _, .cls cd, sl⟩ => decide (ty = "type") && (cd.hasDict && (!cd.hasDel && ((match cd.mro with
    | .ref c :: bm => decide (c = C) && PySem.HandSPX.refsVE bm
    | _ => false) && (match sl.toList with
    | [_, _, _, _, some (.builtin n), _] => decide (n = "ValueError.__new__")
    | _ => false))))
  | _ => false) && (decide (PySem.W.findIn K (.ref C) "__setattr__" = some (some (.builtin "object.__setattr__"))) && (decide (PySem.W.subIn K (.ref C) (.type "BaseException") = some true) &&
    (decide (PySem.W.typeIn K (.ref C) = some (.type "type")) && PySem.W.keepIn K (.ref C))))
theorem oexB_ok {K : PySem.W.Frag} {C : Addr} (h : oexB K C = true) : OexC K C := by
  obtain ⟨h1, h2⟩ := ba2 h
  obtain ⟨h3, h4⟩ := ba2 h2
  obtain ⟨h5, h6⟩ := ba2 h4
  obtain ⟨h7, h8⟩ := ba2 h6
  refine ⟨?_, of_decide_eq_true h3, of_decide_eq_true h5, of_decide_eq_true h7, h8⟩
  cases q : K.lookup C with
  | none =>
    rw [q] at h1
    cases h1
  | some o =>
    obtain ⟨oc, od, dt, osl⟩ := o
    rw [q] at h1
    cases oc with
    | type ty =>
      cases dt with
      | cls cd =>
        obtain ⟨n1, n2, n3, n4, n5, n6, n7, n8, n9, n10, n11⟩ := cd
        obtain ⟨a1, a2⟩ := ba2 h1
        obtain ⟨a3, a4⟩ := ba2 a2
        obtain ⟨a5, a6⟩ := ba2 a4
        obtain ⟨a7, a8⟩ := ba2 a6
        dsimp only at a3 a5 a7
        have e1 := of_decide_eq_true a1
        split at a7
        · rename_i c bm
          obtain ⟨b1, b2⟩ := ba2 a7
          have e2 := of_decide_eq_true b1
          split at a8
          · rename_i k0 k1 k2 k3 nn k5 hsl
            have e3 := of_decide_eq_true a8
            subst e1 e2 e3
            cases n6 with
            | false => cases a3
            | true =>
              cases n11 with
              | true => cases a5
              | false =>
                refine ⟨n1, n5, n4, n2, bm, n7, n8, n9, n10, od, k0, k1, k2, k3, k5, ?_, b2⟩
                obtain ⟨ls⟩ := osl
                obtain rfl : ls = _ := hsl
                rfl
          · cases a8
        · cases a7
      | _ => cases h1
    | _ => cases dt <;> cases h1
def supVB (K : PySem.W.Frag) (C D : Addr) : Bool := oexB K C && (decide (PySem.W.mroIn K C (.ref D) = some true) && (decide (PySem.W.ks_superIn K C D "__init__" = some (some (.builtin "ValueError.__init__"))) &&
  (decide (PySem.W.subIn K (.ref C) (.type "ValueError") = some true) && decide (PySem.W.nsIn K PySem.cStatics "thirdparty.any" = some none))))
theorem supVB_ok {K : PySem.W.Frag} {C D : Addr} (h : supVB K C D = true) : SupV K C D := by
  obtain ⟨h1, h2⟩ := ba2 h
  obtain ⟨h3, h4⟩ := ba2 h2
  obtain ⟨h5, h6⟩ := ba2 h4
  obtain ⟨h7, h8⟩ := ba2 h6
  exact ⟨oexB_ok h1, of_decide_eq_true h3, of_decide_eq_true h5, of_decide_eq_true h7, of_decide_eq_true h8⟩
def excCB (K : PySem.W.Frag) (C : Addr) : Bool := decide (PySem.W.findIn K (.ref C) "__getattribute__" = some (some (.builtin "BaseException.__getattribute__"))) && (decide (PySem.W.findIn K (.ref C) "__getattr__" = some none) && (decide (PySem.W.subIn K (.ref C) (.type "BaseException") = some true) &&
  (PySem.W.hasDictIn K C && (decide (PySem.W.findIn K (.ref C) "__class__" = some (some (.builtin "object.__class__"))) && (decide (PySem.W.specialIn K (.builtin "object.__class__") "__get__" = some (some (.builtin "getset_descriptor.__get__"))) &&
    (decide (PySem.W.takesIn K (.builtin "object.__class__") = some true) && decide (PySem.W.mroIn K C (.type "object") = some true)))))))
theorem excCB_ok {K : PySem.W.Frag} {C : Addr} (h : excCB K C = true) : ExcC K C := by
  obtain ⟨h1, h⟩ := ba2 h
  obtain ⟨h2, h⟩ := ba2 h
  obtain ⟨h3, h⟩ := ba2 h
  obtain ⟨h4, h⟩ := ba2 h
  obtain ⟨h5, h⟩ := ba2 h
  obtain ⟨h6, h⟩ := ba2 h
  obtain ⟨h7, h8⟩ := ba2 h
  exact ⟨of_decide_eq_true h1, of_decide_eq_true h2, of_decide_eq_true h3, h4, of_decide_eq_true h5, of_decide_eq_true h6, of_decide_eq_true h7, of_decide_eq_true h8⟩
/-- an own class whose instances have these fields: all that is asked of it -/
def ownB (K : PySem.W.Frag) (x : Str) (fs : List Str) : Bool := supVB K (He.ga K x) (He.ga K x) && (excCB K (He.ga K x) && (xfB K (He.ga K x) && (fs.all (fun f => decide (PySem.W.findIn K (.ref (He.ga K x)) f = some none)) &&
  (decide (PySem.W.findIn K (.ref (He.ga K x)) "__init__" = some (some (.ref (He.ma K (He.ga K x) "__init__")))) && decide (PySem.W.typeIn K (.ref (He.ma K (He.ga K x) "__init__")) = some (.type "function"))))))
structure Own (K : PySem.W.Frag) (x : Str) (fs : List Str) : Prop where
  v : SupV K (He.ga K x) (He.ga K x)
  e : ExcC K (He.ga K x)
  f : XfC K (He.ga K x)
  n : ∀ f ∈ fs, PySem.W.findIn K (.ref (He.ga K x)) f = some none
  i : PySem.W.findIn K (.ref (He.ga K x)) "__init__" = some (some (.ref (He.ma K (He.ga K x) "__init__")))
  t : PySem.W.typeIn K (.ref (He.ma K (He.ga K x) "__init__")) = some (.type "function")
theorem ownB_ok {K : PySem.W.Frag} {x : Str} {fs : List Str} (h : ownB K x fs = true) : Own K x fs := by
  obtain ⟨h1, h⟩ := ba2 h
  obtain ⟨h2, h⟩ := ba2 h
  obtain ⟨h3, h⟩ := ba2 h
  obtain ⟨h4, h⟩ := ba2 h
  obtain ⟨h5, h6⟩ := ba2 h
  exact ⟨supVB_ok h1, excCB_ok h2, xfB_ok h3, fun f hf => of_decide_eq_true (List.all_eq_true.mp h4 f hf), of_decide_eq_true h5, of_decide_eq_true h6⟩
/-! ### its __init__ -/
abbrev IniW : Type := Option (Str × Str × Arguments × FuncBody × Scope × Addr × Addr)
/-- the init function of class x -/
def iniW (K : PySem.W.Frag) (x : Str) : IniW := match K.lookup (He.ma K (He.ga K x) "__init__") with
  | some ⟨_, _, .func fd, _⟩ => some (fd.name, fd.qualname, fd.params, fd.body, fd.scope, fd.globals, fd.builtins)
  | _ => none
structure IniD where
  cls : Str
  qual : Str
  params : Arguments
  body : List Stmt
  scope : Scope
def IniD.val (d : IniD) : IniW := some ("__init__", d.qual, d.params, .stmts d.body, d.scope, mainGlobals, builtinsNs)
def IniD.nf (K : PySem.W.Frag) (d : IniD) : NF := ⟨"__init__", d.qual, d.params, d.body, d.scope, (fdOf K (d.cls, some "__init__")).closure, match (fdOf K (d.cls, some "__init__")).code with | .ref c => c | _ => 0⟩
def iniB (P : Program) (K : PySem.W.Frag) (d : IniD) : Bool := match K.lookup (He.ma K (He.ga K d.cls) "__init__") with
  | some ⟨_, _, .func fd, _⟩ => (match fd.defaults, fd.kwdefaults, fd.annotations with
    | .none, .none, none => true
    | _, _, _ => false) && (PySem.W.codeIn K fd.code d.qual && ((match fd.closure with
    | [(n, cc)] => decide (n = "__class__") && (match K.lookup cc with
      | some ⟨_, _, .cell (some (.ref D)), _⟩ => decide (D = He.ga K d.cls)
      | _ => false)
    | _ => false) && ((match fd.code with
    | .ref c => (match K.lookup c with
      | some ⟨_, _, .fields vs, _⟩ => (match (vs[2]? : Option Value) with
        | some (.str file _) => (P.main.file : Str) == file
        | _ => false)
      | _ => false)
    | _ => false) && !(P.main.scope.names.lookup ("super" : Str)).isSome)))
  | _ => false
theorem ini_ok {P : Program} {K : PySem.W.Frag} {mg : Str → Option Value} {d : IniD} (e : iniW K d.cls = d.val) (c : iniB P K d = true) (hD : ∃ cd, PySem.W.clsIn K (He.ga K d.cls) = some cd) (hs : mg "super" = none) :
    ∃ cc, SupF P K mg (He.ma K (He.ga K d.cls) "__init__") (fdOf K (d.cls, some "__init__")) (d.nf K) (He.ga K d.cls) cc := by
  unfold iniW at e
  unfold iniB at c
  have ef : fdOf K (d.cls, some "__init__") = match K.lookup (He.ma K (He.ga K d.cls) "__init__") with
    | some ⟨_, _, .func fd, _⟩ => fd
    | _ => fdNo := rfl
  cases q : K.lookup (He.ma K (He.ga K d.cls) "__init__") with
  | none =>
    rw [q] at c
    cases c
  | some o =>
    obtain ⟨oc, od, dt, osl⟩ := o
    rw [q] at c e ef
    cases dt with
    | func fd =>
      dsimp only at ef
      have e2 : (some (fd.name, fd.qualname, fd.params, fd.body, fd.scope, fd.globals, fd.builtins) : IniW) = (some (("__init__" : Str), d.qual, d.params, FuncBody.stmts d.body, d.scope, mainGlobals, builtinsNs) : IniW) := e
      obtain ⟨a1, a2⟩ := ba2 c
      obtain ⟨a3, a4⟩ := ba2 a2
      obtain ⟨a5, a6⟩ := ba2 a4
      obtain ⟨a7, a8⟩ := ba2 a6
      split at a1
      · rename_i z1 z2 z3
        split at a5
        · rename_i n cc hcl
          obtain ⟨b1, b2⟩ := ba2 a5
          split at b2
          · rename_i cl cld D csl hcc
            split at a7
            · rename_i cv hcv
              split at a7
              · rename_i ccl cdd vs ccs hcd
                split at a7
                · rename_i file tf hvs
                  refine ⟨cc, ⟨?_, ?_, ?_, ?_, ?_, hD, hs, ?_⟩⟩
                  · refine ⟨oc, od, osl, fd.doc, fd.pyModule, fd.closureTuple, ?_, by rw [ef]; exact q⟩
                    unfold IniD.nf
                    rw [ef, hcv]
                    obtain ⟨n1, n2, n3, n4, n5, n6, n7, n8, n9, n10, n11, n12, n13, n14, n15⟩ := fd
                    simp only [Option.some.injEq, Prod.mk.injEq] at e2
                    obtain ⟨y1, y2, y3, y4, y5, y6, y7⟩ := e2
                    dsimp only at z1 z2 z3 hcv
                    subst y1 y2 y3 y4 y5 y6 y7 z1 z2 z3 hcv
                    rfl
                  · show PySem.W.codeIn K (.ref (match (fdOf K (d.cls, some "__init__")).code with | .ref c => c | _ => 0)) d.qual = true
                    rw [ef, hcv]
                    rw [hcv] at a3
                    exact a3
                  · refine ⟨ccl, cdd, vs, ccs, file, tf, ?_, hvs, a7⟩
                    show K.lookup (match (fdOf K (d.cls, some "__init__")).code with | .ref c => c | _ => 0) = _
                    rw [ef, hcv]
                    exact hcd
                  · show (fdOf K (d.cls, some "__init__")).closure = _
                    rw [ef, hcl, of_decide_eq_true b1]
                  · refine ⟨cl, cld, csl, ?_⟩
                    rw [← of_decide_eq_true b2]
                    exact hcc
                  · cases w : (P.main.scope.names.lookup ("super" : Str)).isSome with
                    | false => rfl
                    | true =>
                      rw [w] at a8
                      cases a8
                · cases a7
              · cases a7
            · cases a7
          · cases b2
        · cases a5
      · cases a1
    | _ => cases c
/-! ### the hook with them -/
def asN (g : Addr → Option Obj) (n : Nat) : List Addr := PySem.cStatics :: He.asD g n
abbrev AlN : Type := AlM × List IniW
def obsN (n : Nat) (fa : List He.Fa) (fn : List He.DefD) (ex : Ex) (fi : List IniD) (g : Addr → Option Obj) : AlN :=
  ((He.obsD fa fn (He.frG g (asN g n)), exB ex (He.frG g (asN g n))), fi.map fun d => iniW (He.frG g (asN g n)) d.cls)
structure FactsN (fa : List He.Fa) (fn : List He.DefD) (ex : Ex) (fi : List IniD) (K : PySem.W.Frag) (mg : Str → Option Value) : Prop where
  b : Facts fa fn ex K mg
  ini : (fi.map fun d => iniW K d.cls) = fi.map IniD.val
def hookN (n : Nat) (fa : List He.Fa) (fn : List He.DefD) (ex : Ex) (fi : List IniD) : PySem.W.Hook where
  α := AlN
  obs := fun s => obsN n fa fn ex fi s.heap.get?
  val := fun _ => ((He.valD fn, true), fi.map IniD.val)
  says := fun _ h => ∃ K : PySem.W.Frag, K.In h ∧ He.SaysD fa fn K ∧ exB ex K = true ∧ (fi.map fun d => iniW K d.cls) = fi.map IniD.val
  of := fun _ _ e => ⟨_, He.frG_in, congrArg (fun z : AlN => z.1.1) e, congrArg (fun z : AlN => z.1.2) e, congrArg (fun z : AlN => z.2) e⟩
  keeps := fun _ _ _ ⟨K, hK, c⟩ k => ⟨K, PySem.W.Frag.In.keeps hK k, c⟩
theorem obsN_eq {n : Nat} {fa : List He.Fa} {fn : List He.DefD} {ex : Ex} {fi : List IniD} {g : Addr → Option Obj} {s : Shared} (h : ∀ a, g a = s.heap.get? a) : obsN n fa fn ex fi g = (hookN n fa fn ex fi).obs s := by
  obtain rfl : g = s.heap.get? := funext h
  rfl
theorem FactsN.ini_ {fa : List He.Fa} {fn : List He.DefD} {ex : Ex} {fi : List IniD} {K : PySem.W.Frag} {mg : Str → Option Value} (T : FactsN fa fn ex fi K mg) (i : Nat) (d : IniD) (h : fi[i]? = some d := by rfl) : iniW K d.cls = d.val := by
  have e2 : (fi.map fun d => iniW K d.cls)[i]? = (fi.map IniD.val)[i]? := by rw [T.ini]
  rw [List.getElem?_map, List.getElem?_map, h] at e2
  exact Option.some.inj e2
theorem FactsN.supF {fa : List He.Fa} {fn : List He.DefD} {ex : Ex} {fi : List IniD} {K : PySem.W.Frag} {mg : Str → Option Value} {P : Program} {fs : List Str} (T : FactsN fa fn ex fi K mg) (i : Nat) (d : IniD) (c : iniB P K d = true) (o : Own K d.cls fs) (hs : mg "super" = none) (h : fi[i]? = some d := by rfl) :
    ∃ cc, SupF P K mg (He.ma K (He.ga K d.cls) "__init__") (fdOf K (d.cls, some "__init__")) (d.nf K) (He.ga K d.cls) cc := by
  refine ini_ok (T.ini_ i d h) c ?_ hs
  obtain ⟨cd, z, _⟩ := PySem.W.any_some o.f.hdC
  exact ⟨cd, z⟩
/-- as row_by, with them -/
theorem row_byN {l : PySem.W.OpenLaw} {i : Nat} {fa : List He.Fa} {fn : List He.DefD} {ex : Ex} {fi : List IniD} {d : DefRec} {k : Nat} {q : Program} {loose : List Str} {XP : (Str → Option Value) → Heap → Prop} {sp : PySem.W.Frag → Sp} {f : PySem.W.Frag → Addr} {fd : PySem.W.Frag → FuncData}
    (hn : l.most = some 63) (hdf : d.params.defaults = []) (hr : Room k callerA) (hdn : d.name = ("law" : Str)) (hf : ∀ K mg, FactsN fa fn ex fi K mg → mg ("law" : Str) = some (.ref (f K)))
    (hb : ∀ K mg, FactsN fa fn ex fi K mg → ∀ (s : Shared) (u : Value), BindsTo s (fd K) ⟨[u], []⟩ [("script", u)])
    (hsp : ∀ (K : PySem.W.Frag) (H : Hp) (a : Addr) (ns : List Int), ns.length ≤ 63 → Only H → SqL K H a (ns.map V.int) → sp K [.ref a] H (fun v _ => v = .bl true) fun _ _ _ => False)
    (hF : ∀ (w : World) K mg base, FactsN fa fn ex fi K mg → FnOk l.prog w K mg base CX0 k (f K) (fd K) ["script"] (sp K)) :
    PySem.W.WalkO q loose XP (hookN i fa fn ex fi).says l.row.toRowW d [] (fun f vs => PySem.call f vs) := by
  refine L2.walk_ofE (l := l) (n := 63) (k := k) (x := "script") (CX := L2.CX0) hn (by decide) hdf hr (fun {w mg fa'} h Y G hmg0 => ?_) (fun _ _ _ _ z => z)
  obtain ⟨K, KX, c, cx, ci⟩ := Y
  have T : FactsN fa fn ex fi K mg := ⟨⟨⟨h, KX, G⟩, c, cx⟩, ci⟩
  rw [hdn, hf K mg T] at hmg0
  cases hmg0
  exact ⟨K, fd K, sp K, KX, hb K mg T, hsp K, fun base _ _ => hF w K mg base T⟩
end TK
/-! Own toolkit, part s: data trees, and what a value of them is. -/
namespace TK
open PySem PySem.Spec PyProof.Rows L2
inductive D where
  | non
  | bl (b : Bool)
  | int (i : Int)
  | str (s : Str)
  | lst (l : List D)
  | tup (l : List D)
/-- items by items -/
inductive AllI (R : V → D → Prop) : List V → List D → Prop
  | nil : AllI R [] []
  | cons {v d vs ds} (h : R v d) (t : AllI R vs ds) : AllI R (v :: vs) (d :: ds)
/-- the value v is, in the heap H, the tree d -/
inductive Is (H : Hp) : V → D → Prop
  | non : Is H .non .non
  | bl (b : Bool) : Is H (.bl b) (.bl b)
  | int (i : Int) : Is H (.int i) (.int i)
  | str (s : Str) (h : s.length ≤ sizeLine) : Is H (.str s) (.str s)
  | lst {p : Addr} {vs : List V} {ds : List D} (e : H p = some (.lst vs)) (z : vs.length ≤ sizeLine) (a : AllI (Is H) vs ds) : Is H (.ref p) (.lst ds)
  | tup {p : Addr} {vs : List V} {ds : List D} (e : H p = some (.tup vs)) (z : vs.length ≤ sizeLine) (a : AllI (Is H) vs ds) : Is H (.ref p) (.tup ds)
mutual
theorem Is.mono {H H' : Hp} (s : Same H H') : ∀ {v : V} {d : D}, Is H v d → Is H' v d
  | _, _, .non => .non
  | _, _, .bl b => .bl b
  | _, _, .int i => .int i
  | _, _, .str x h => .str x h
  | _, _, .lst e z a => .lst (s _ _ e) z (AllI.mono s a)
  | _, _, .tup e z a => .tup (s _ _ e) z (AllI.mono s a)
theorem AllI.mono {H H' : Hp} (s : Same H H') : ∀ {vs : List V} {ds : List D}, AllI (Is H) vs ds → AllI (Is H') vs ds
  | _, _, .nil => .nil
  | _, _, .cons h t => .cons (Is.mono s h) (AllI.mono s t)
end
theorem AllI.len {R : V → D → Prop} : ∀ {vs : List V} {ds : List D}, AllI R vs ds → vs.length = ds.length
  | _, _, .nil => rfl
  | _, _, .cons _ t => by rw [List.length_cons, List.length_cons, t.len]
theorem AllI.get {R : V → D → Prop} : ∀ {vs : List V} {ds : List D} (_ : AllI R vs ds) {i : Nat} {v : V}, vs[i]? = some v → ∃ d, ds[i]? = some d ∧ R v d
  | _, _, .cons h t, 0, v, e => by
    have e : some _ = some v := e
    cases e
    exact ⟨_, rfl, h⟩
  | _, _, .cons h t, i + 1, v, e => t.get (i := i) e
theorem AllI.app {R : V → D → Prop} : ∀ {vs : List V} {ds : List D} {us : List V} {es : List D}, AllI R vs ds → AllI R us es → AllI R (vs ++ us) (ds ++ es)
  | _, _, _, _, .nil, b => b
  | _, _, _, _, .cons h t, b => .cons h (t.app b)
theorem AllI.one {R : V → D → Prop} {v : V} {d : D} (h : R v d) : AllI R [v] [d] := .cons h .nil
def D.kd : D → String
  | .non => "NoneType"
  | .bl _ => "bool"
  | .int _ => "int"
  | .str _ => "str"
  | .lst _ => "list"
  | .tup _ => "tuple"
theorem Is.ty {K : PySem.W.Frag} {H : Hp} {v : V} {d : D} (h : Is H v d) : TyX K H v (.type d.kd) := by
  cases h with
  | non => exact .base .non
  | bl b => exact .base (.bl b)
  | int i => exact .base (.int i)
  | str s _ => exact .base (.str s)
  | lst e _ _ => exact .base (.lst e)
  | tup e _ _ => exact .base (.tup e)
/-- isinstance(x, T) of such a value -/
theorem isi_D {K : PySem.W.Frag} {H : Hp} {v : V} {d : D} {T : String} {b : Bool} {Q : VK} (h : Is H v d) (e : kitB d.kd T = some b) (q : Q (.bl b) H) : rIsi K [v, .ty T] H Q :=
  ⟨v, .ty T, .type d.kd, .type T, b, rfl, .ty _, h.ty, kit_ty e, q⟩
theorem cb_isi {K : PySem.W.Frag} {i : Nat} {T : String} {b : Bool} {σ : L2.St} {H : Hp} {Q : VK} {v : V} {d : D} (hs : σ[i]? = some (some v)) (h : Is H v d) (e : kitB d.kd T = some b) (q : Q (.bl b) H) :
    tCB (rIsi K) (tCons (tVar i) (tCons (tC (.ty T)) tNil)) σ H Q := ⟨v, hs, isi_D h e q⟩
/-- the same tree twice, of a kind R: told alike -/
def sp_same (R : D → Prop) : Sp := fun vs H Q _ => ∃ (x y : V) (d : D), vs = [x, y] ∧ Is H x d ∧ Is H y d ∧ R d ∧ ∀ H', Same H H' → Q (.bl true) H'
theorem same_end {H : Hp} {Q : VK} {a : V} (q : ∀ H', Same H H' → Q (.bl true) H') : Q (.bl (decide (a = a))) H := by
  rw [decide_eq_true rfl]
  exact q H (Same.refl H)
def Deeper (R : D → Prop) : D → Prop
  | .lst l => ∀ x ∈ l, R x
  | .tup l => ∀ x ∈ l, R x
  | _ => True
/-- trees of a depth -/
def Fits : Nat → D → Prop
  | 0 => fun _ => False
  | n + 1 => Deeper (Fits n)
theorem ok_never {P : Program} {w : World} {K : PySem.W.Frag} {mg : Str → Option Value} {base : Heap} {CX : CXT} {k : Nat} {f : Addr} {fd : FuncData} {ps : List Str} : FnOk P w K mg base CX k f fd ps (fun _ _ _ _ => False) :=
  ⟨fun _ _ _ _ h => h.elim, fun _ _ _ _ _ _ _ _ _ _ _ _ _ h => h.elim⟩
/-- a while, with a word of one's own and a number that falls -/
theorem while_m {c : TT} {tb : TS} {D : Ends} {σ : L2.St} {H : Hp} (W : Nat → L2.St → Hp → Prop) (m0 : Nat) (h0 : W m0 σ H)
    (hs : ∀ m σ H, W m σ H → c σ H fun b H1 => if b = true then ∃ N : L2.St → Hp → Prop, (∀ σ' H', N σ' H' → ∃ m', m' < m ∧ W m' σ' H') ∧ tb { D with nx := N, ct := N, bk := D.nx } σ H1 else D.nx σ H1) : tWhile c tb D σ H := ⟨W, ⟨m0, h0⟩, hs⟩
end TK
/-! Own toolkit, part t: a text times a number. -/
namespace TK
open PySem PySem.Spec PyProof.Rows L2
def rMulS : R2 := fun x y H Q => ∃ (z : Str) (n : Nat), x = .str z ∧ y = .int n ∧ z.length ≤ 1000 ∧ n ≤ 1000 ∧ ∀ r : Str, r.cps.toList = (List.replicate n z.cps.toList).flatten → Q (.str r) H
theorem fold_cps (z : Array Nat) : ∀ (n : Nat) (a : Array Nat), ((List.replicate n z).foldl (· ++ ·) a).toList = a.toList ++ (List.replicate n z.toList).flatten
  | 0, a => by simp
  | n + 1, a => by
    rw [List.replicate_succ, List.foldl_cons, fold_cps z n (a ++ z), List.replicate_succ, List.flatten_cons]
    simp
theorem op_mul_str {X : Cx} : OpR X (binaryOp .Mult) rMulS := by
  intro pins s σ H x y v u Q I rx ry h
  obtain ⟨z, n, rfl, rfl, hz, hn, q⟩ := h
  obtain ⟨t, rfl⟩ := rx
  obtain ⟨t', rfl⟩ := ry
  have hlen : z.length * n ≤ 1000000 := Nat.mul_le_mul hz hn
  refine PySem.P.mul_str (by rw [decide_eq_false (by omega), decide_eq_false (by omega)]; rfl) (fun h1 _ => ?_) (fun _ _ => ?_) ?_
  · have : (1000 : Int) ≤ (2 ^ 63 - 1) / (n : Int) := Int.le_ediv_of_mul_le (by omega) (by omega)
    omega
  · show (decide (z.length * (n : Int).toNat > sizeLine)) = false
    rw [Int.toNat_natCast, decide_eq_false_iff_not, sizeLine_eq]
    omega
  · by_cases h1 : (n : Int) < 1
    · rw [if_pos h1]
      have : n = 0 := by omega
      subst this
      exact ⟨by decide, .str Str.empty, H, I.tok _, ⟨_, rfl⟩, q _ rfl⟩
    · rw [if_neg h1]
      by_cases h2 : ((n : Int) == 1 || z.length == 0) = true
      · rw [if_pos h2]
        refine ⟨.str z, H, I, ⟨_, rfl⟩, q _ ?_⟩
        rcases Bool.or_eq_true_iff.mp h2 with e | e
        · have : n = 1 := by have := beq_iff_eq.mp e; omega
          subst this
          simp
        · have : z.cps.toList = [] := List.length_eq_zero_iff.mp (by rw [← len_cps]; exact beq_iff_eq.mp e)
          rw [this]
          simp
      · rw [if_neg h2]
        refine ⟨?_, .str _, H, I.tok _, ⟨_, rfl⟩, q _ ?_⟩
        · rw [len_cps, Int.toNat_natCast]
          show (((List.replicate n z.cps).foldl (· ++ ·) #[]).toList).length ≤ _
          rw [fold_cps, List.length_append, List.length_flatten, List.map_replicate, List.sum_replicate_nat, Nat.mul_comm, sizeLine_eq]
          rw [len_cps] at hlen
          show 0 + _ ≤ _
          omega
        · rw [Int.toNat_natCast]
          show ((List.replicate n z.cps).foldl (· ++ ·) #[]).toList = _
          rw [fold_cps]
          simp
end TK
namespace TK
open PySem PySem.Spec PyProof.Rows L2
/-! the rules that name the written part, told with it (within a comprehension) -/
section
variable {X : Cx} {K : PySem.W.Frag}
theorem ix_K (h : X.K = K := by rfl) : IxR X (rIxA K) := h ▸ ix_A
theorem op_addK (h : X.K = K := by rfl) : OpR X (binaryOp .Add) (rAddA K) := h ▸ op_addA
theorem call_lenK (h : X.K = K := by rfl) : CallR X (.builtin "len") (fun xs H Q => rLenS xs H Q ∨ rLenL K xs H Q) := h ▸ call_lenA
theorem op_inK (h : X.K = K := by rfl) : OpR X (compareOp .In) (fun x y H Q => rInSign x y H Q ∨ rInQ K x y H Q) := h ▸ op_inA
theorem op_ninK (h : X.K = K := by rfl) : OpR X (compareOp .NotIn) (fun x y H Q => rNinSign x y H Q ∨ rNinQ K x y H Q) := h ▸ op_ninA
theorem sl_K (h : X.K = K := by rfl) : SlR X (fun x l u H Q => rSlS x l u H Q ∨ rSlL K x l u H Q ∨ rSlT K x l u H Q) := h ▸ sl_A
end
end TK
namespace TK
open PySem PySem.Spec PyProof.Rows L2
/-- a new object: the heap with it as one letter (generalize e : upd H p _ = G) -/
theorem new_of {H G : Hp} {p : Addr} {o : HO} (e : upd H p o = G) (np : H p = none) : Same H G ∧ G p = some o := e ▸ ⟨same_new np, upd_same⟩
end TK
/-! Own toolkit, part m: tactics for readings. -/
local macro_rules | `(tactic| walk_at "ne") => `(tactic| first | assumption | (apply Ne.symm; assumption) | (refine TK.ne_tag (by assumption) (by assumption) (by exact rfl)) | (refine L2.ne_of_none (by assumption) (by assumption)) | (refine Ne.symm (L2.ne_of_none (by assumption) (by assumption))))
local macro_rules | `(tactic| walk_at "hp") => `(tactic| first | exact L2.upd_same | assumption | (refine Eq.trans (L2.upd_ne (by walk_at "ne")) (by walk_at "hp")))
local macro_rules | `(tactic| walk_at "sq") => `(tactic| first | assumption | (refine L2.SqL.of (by walk_at "hp")) | (refine L2.SqT.of (by walk_at "hp")))
local macro_rules | `(tactic| walk_at "ix") => `(tactic| first | rfl | assumption)
local macro_rules | `(tactic| walk_at "cd") => `(tactic| first | assumption | decide | omega | (dsimp only; omega) | exact Or.inr ⟨by decide, by decide⟩ | exact Or.inl ⟨by omega, by omega⟩ | exact TK.cdiv_of (by omega) (by assumption) | exact TK.cdiv_small (by omega) (by omega) | exact TK.lt_big (by omega) | exact TK.line_big (by assumption) | exact ⟨by decide, by decide, by decide⟩ | exact Nat.le_of_ble_eq_true rfl)
local macro_rules | `(tactic| walk_at "fl") => `(tactic| first | rfl | exact TK.all_flat _ | assumption)
local macro_rules | `(tactic| walk_at "sta") => `(tactic| first | assumption | exact TK.StAt.mono (by assumption) (by assumption))
local macro_rules | `(tactic| walk_at "is") => `(tactic| first | assumption | exact TK.Is.int _ | exact TK.Is.bl _ | exact TK.Is.non | exact TK.Is.str _ (by assumption) | exact TK.Is.mono (by assumption) (by assumption))
local macro_rules | `(tactic| walk_at "kd") => `(tactic| first | decide +kernel | (dsimp only [TK.D.kd]; decide +kernel))
local macro_rules | `(tactic| walk_at "r1") => `(tactic| first
  | refine ⟨_, rfl, ?_⟩
  | refine ⟨rfl, ?_⟩
  | refine ⟨_, _, rfl, rfl, by walk_at "cd", ?_⟩
  | refine ⟨_, _, rfl, rfl, ?_⟩
  | refine .inl ⟨_, rfl, ?_⟩
  | refine .inl ⟨_, _, rfl, rfl, ?_⟩
  | refine .inl ⟨_, _, _, _, rfl, rfl, by walk_at "sq", by walk_at "ix", ?_⟩
  | refine .inr (.inl ⟨_, _, _, _, rfl, rfl, by walk_at "sq", by walk_at "ix", ?_⟩)
  | refine .inr (.inr ⟨_, _, _, rfl, rfl, by walk_at "cd", by walk_at "ix", ?_⟩)
  | refine ⟨_, _, _, _, rfl, rfl, by walk_at "hp", by walk_at "ix", ?_⟩
  | refine .inr ⟨_, _, rfl, .inl (by walk_at "sq"), ?_⟩
  | refine .inr ⟨_, _, rfl, .inr (by walk_at "sq"), ?_⟩
  | refine .inr (.inl ⟨_, _, rfl, rfl, by walk_at "cd", ?_⟩)
  | refine .inr (.inr (.inl ⟨_, _, _, _, rfl, rfl, by walk_at "hp", by walk_at "hp", by walk_at "cd", ?_⟩))
  | refine .inr ⟨_, _, rfl, .inl (by walk_at "sq"), rfl, by walk_at "fl", ?_⟩
  | refine .inr ⟨_, _, rfl, .inr (by walk_at "sq"), rfl, by walk_at "fl", ?_⟩
  | refine ⟨_, _, rfl, by walk_at "sta", .inl ⟨_, rfl, by walk_at "cd", by walk_at "cd", ?_⟩⟩
  | refine ⟨_, _, rfl, by walk_at "sta", .inr ⟨_, _, rfl, by walk_at "hp", by walk_at "cd", by walk_at "cd", ?_⟩⟩
  | refine ⟨⟨_, by walk_at "sq"⟩, ?_⟩
  | refine And.intro (by walk_at "cd") ?_
  | refine ⟨_, _, rfl, by walk_at "sta", by walk_at "cd", by walk_at "cd", ?_⟩
  | refine ⟨_, _, rfl, by walk_at "is", ?_⟩
  | refine L2.iteT ?_
  | refine L2.iteF ?_)
local macro_rules | `(tactic| walk_at "rd") => `(tactic| repeat (walk_at "r1"))
local macro_rules | `(tactic| walk_at "ri1") => `(tactic| first
  | refine TK.cb_isi (b := true) rfl (by walk_at "is") (by walk_at "kd") ?_
  | refine TK.cb_isi (b := false) rfl (by walk_at "is") (by walk_at "kd") ?_
  | walk_at "r1")
local macro_rules | `(tactic| walk_at "rdi") => `(tactic| repeat (walk_at "ri1"))
namespace K01
open PySem PySem.Spec PyProof.Rows L2 TK
def top (i : Nat) : Stmt := PySem.Challenge.pw_takenorelse_k01_tokens_of_a_line.main.body.getD i (.Pass ⟨0, 0, 0, 0⟩)
abbrev s_run_end : Stmt := top 8
theorem sc_run_end : FnScope ["line", "start", "chars", "end"] ["line", "start", "chars"] (defScope s_run_end) := ⟨rfl, rfl, rfl, by decide +kernel, rfl, by decide +kernel, by decide +kernel⟩
abbrev at_run_end : Str × Option Str := ("run_end", none)
def d_run_end : He.DefD := ⟨at_run_end, "run_end", "run_end", defArgs s_run_end, defBody s_run_end, defScope s_run_end, [], []⟩
abbrev s_token_end : Stmt := top 9
theorem sc_token_end : FnScope ["line", "start", "char", "end"] ["line", "start"] (defScope s_token_end) := ⟨rfl, rfl, rfl, by decide +kernel, rfl, by decide +kernel, by decide +kernel⟩
abbrev at_token_end : Str × Option Str := ("token_end", none)
def d_token_end : He.DefD := ⟨at_token_end, "token_end", "token_end", defArgs s_token_end, defBody s_token_end, defScope s_token_end, [], []⟩
abbrev s_tokens : Stmt := top 10
theorem sc_tokens : FnScope ["line", "found", "at", "end"] ["line"] (defScope s_tokens) := ⟨rfl, rfl, rfl, by decide +kernel, rfl, by decide +kernel, by decide +kernel⟩
abbrev at_tokens : Str × Option Str := ("tokens", none)
def d_tokens : He.DefD := ⟨at_tokens, "tokens", "tokens", defArgs s_tokens, defBody s_tokens, defScope s_tokens, [], []⟩
abbrev s_law_state : Stmt := top 12
theorem sc_law_state : FnScope ["script"] ["script"] (defScope s_law_state) := ⟨rfl, rfl, rfl, by decide +kernel, rfl, by decide +kernel, by decide +kernel⟩
abbrev at_law_state : Str × Option Str := ("_law_state", none)
def d_law_state : He.DefD := ⟨at_law_state, "_law_state", "_law_state", defArgs s_law_state, defBody s_law_state, defScope s_law_state, [], []⟩
abbrev s_law_draw : Stmt := top 13
theorem sc_law_draw : FnScope ["state", "many", "digit", "first", "second", "third"] ["state", "many"] (defScope s_law_draw) := ⟨rfl, rfl, rfl, by decide +kernel, rfl, by decide +kernel, by decide +kernel⟩
abbrev at_law_draw : Str × Option Str := ("_law_draw", none)
def d_law_draw : He.DefD := ⟨at_law_draw, "_law_draw", "_law_draw", defArgs s_law_draw, defBody s_law_draw, defScope s_law_draw, [], []⟩
abbrev s_law_pick : Stmt := top 14
theorem sc_law_pick : FnScope ["state", "row"] ["state", "row"] (defScope s_law_pick) := ⟨rfl, rfl, rfl, by decide +kernel, rfl, by decide +kernel, by decide +kernel⟩
abbrev at_law_pick : Str × Option Str := ("_law_pick", none)
def d_law_pick : He.DefD := ⟨at_law_pick, "_law_pick", "_law_pick", defArgs s_law_pick, defBody s_law_pick, defScope s_law_pick, [], []⟩
abbrev s_law_mixed : Stmt := top 15
theorem sc_law_mixed : FnScope ["state", "row", "rest", "result", "k", "at"] ["state", "row"] (defScope s_law_mixed) := ⟨rfl, rfl, rfl, by decide +kernel, rfl, by decide +kernel, by decide +kernel⟩
abbrev at_law_mixed : Str × Option Str := ("_law_mixed", none)
def d_law_mixed : He.DefD := ⟨at_law_mixed, "_law_mixed", "_law_mixed", defArgs s_law_mixed, defBody s_law_mixed, defScope s_law_mixed, [], []⟩
abbrev s_law_is_int : Stmt := top 16
theorem sc_law_is_int : FnScope ["thing"] ["thing"] (defScope s_law_is_int) := ⟨rfl, rfl, rfl, by decide +kernel, rfl, by decide +kernel, by decide +kernel⟩
abbrev at_law_is_int : Str × Option Str := ("_law_is_int", none)
def d_law_is_int : He.DefD := ⟨at_law_is_int, "_law_is_int", "_law_is_int", defArgs s_law_is_int, defBody s_law_is_int, defScope s_law_is_int, [], []⟩
abbrev s_law_same : Stmt := top 17
theorem sc_law_same : FnScope ["actual", "due", "key", "k"] ["actual", "due"] (defScope s_law_same) := ⟨rfl, rfl, rfl, by decide +kernel, rfl, by decide +kernel, by decide +kernel⟩
abbrev at_law_same : Str × Option Str := ("_law_same", none)
def d_law_same : He.DefD := ⟨at_law_same, "_law_same", "_law_same", defArgs s_law_same, defBody s_law_same, defScope s_law_same, [], []⟩
abbrev s_law_reserved : Stmt := top 18
theorem sc_law_reserved : FnScope ["words"] [] (defScope s_law_reserved) := ⟨rfl, rfl, rfl, by decide +kernel, rfl, by decide +kernel, by decide +kernel⟩
abbrev at_law_reserved : Str × Option Str := ("_law_reserved", none)
def d_law_reserved : He.DefD := ⟨at_law_reserved, "_law_reserved", "_law_reserved", defArgs s_law_reserved, defBody s_law_reserved, defScope s_law_reserved, [], []⟩
abbrev s_law_word : Stmt := top 19
theorem sc_law_word : FnScope ["state", "size", "letters", "word", "code", "k"] ["state", "size"] (defScope s_law_word) := ⟨rfl, rfl, rfl, by decide +kernel, rfl, by decide +kernel, by decide +kernel⟩
abbrev at_law_word : Str × Option Str := ("_law_word", none)
def d_law_word : He.DefD := ⟨at_law_word, "_law_word", "_law_word", defArgs s_law_word, defBody s_law_word, defScope s_law_word, [], []⟩
abbrev s_law_piece : Stmt := top 20
theorem sc_law_piece : FnScope ["state", "kind", "digits"] ["state"] (defScope s_law_piece) := ⟨rfl, rfl, rfl, by decide +kernel, rfl, by decide +kernel, by decide +kernel⟩
abbrev at_law_piece : Str × Option Str := ("_law_piece", none)
def d_law_piece : He.DefD := ⟨at_law_piece, "_law_piece", "_law_piece", defArgs s_law_piece, defBody s_law_piece, defScope s_law_piece, [], []⟩
abbrev s_law_touch : Stmt := top 21
theorem sc_law_touch : FnScope ["one", "two", "letters", "digits"] ["one", "two"] (defScope s_law_touch) := ⟨rfl, rfl, rfl, by decide +kernel, rfl, by decide +kernel, by decide +kernel⟩
abbrev at_law_touch : Str × Option Str := ("_law_touch", none)
def d_law_touch : He.DefD := ⟨at_law_touch, "_law_touch", "_law_touch", defArgs s_law_touch, defBody s_law_touch, defScope s_law_touch, [], []⟩
abbrev s_law_laid : Stmt := top 22
theorem sc_law_laid : FnScope ["state", "pieces", "line", "columns", "code", "k", "gap"] ["state", "pieces"] (defScope s_law_laid) := ⟨rfl, rfl, rfl, by decide +kernel, rfl, by decide +kernel, by decide +kernel⟩
abbrev at_law_laid : Str × Option Str := ("_law_laid", none)
def d_law_laid : He.DefD := ⟨at_law_laid, "_law_laid", "_law_laid", defArgs s_law_laid, defBody s_law_laid, defScope s_law_laid, [], []⟩
abbrev s_law_split : Stmt := top 23
theorem sc_law_split : FnScope ["line", "e"] ["line"] (defScope s_law_split) := ⟨rfl, rfl, rfl, by decide +kernel, rfl, by decide +kernel, by decide +kernel⟩
abbrev at_law_split : Str × Option Str := ("_law_split", none)
def d_law_split : He.DefD := ⟨at_law_split, "_law_split", "_law_split", defArgs s_law_split, defBody s_law_split, defScope s_law_split, [], []⟩
abbrev s_law : Stmt := top 24
theorem sc_law : FnScope ["script", "state", "others", "k", "pieces", "line", "columns", "due", "told", "strange", "spot", "spoiled", "at"] ["script"] (defScope s_law) := ⟨rfl, rfl, rfl, by decide +kernel, rfl, by decide +kernel, by decide +kernel⟩
abbrev at_law : Str × Option Str := ("law", none)
def d_law : He.DefD := ⟨at_law, "law", "law", defArgs s_law, defBody s_law, defScope s_law, [], []⟩
def c_SIGNS : List Str := ["<", "<=", "==", "!=", ">=", ">"]
def x_SIGNS : PySem.W.Frag → Bool := fun K => He.tupB K "SIGNS" (c_SIGNS.map He.Dv.str)
def PP : Program := (PySem.Challenge.rw_takenorelse_k01_tokens_of_a_line).prog
abbrev s_BadTextI : Stmt := inClass (top 3) 0
def i_BadText : IniD := ⟨"BadText", "BadText.__init__", defArgs s_BadTextI, defBody s_BadTextI, defScope s_BadTextI⟩
theorem nsc_BadText : NdefX.NScope ["self", "line", "column", "__class__"] ["self", "line", "column"] ["__class__"] (defScope s_BadTextI) := NdefX.nscope_by (by decide +kernel)
def xo_BadText : PySem.W.Frag → Bool := fun K => ownB K "BadText" ["line", "column"]
def xi_BadText : PySem.W.Frag → Bool := fun K => iniB PP K i_BadText
abbrev s_BadNameI : Stmt := inClass (top 2) 0
def i_BadName : IniD := ⟨"BadName", "BadName.__init__", defArgs s_BadNameI, defBody s_BadNameI, defScope s_BadNameI⟩
theorem nsc_BadName : NdefX.NScope ["self", "name", "__class__"] ["self", "name"] ["__class__"] (defScope s_BadNameI) := NdefX.nscope_by (by decide +kernel)
def xo_BadName : PySem.W.Frag → Bool := fun K => ownB K "BadName" ["name"]
def xi_BadName : PySem.W.Frag → Bool := fun K => iniB PP K i_BadName
def xk_BadText_BadText : PySem.W.Frag → Bool := fun K => decide (PySem.W.kitOne K (.ref (He.ga K "BadText")) (.ref (He.ga K "BadText")) = some true)
def xk_BadText_ValueError : PySem.W.Frag → Bool := fun K => decide (PySem.W.kitOne K (.ref (He.ga K "BadText")) (.type "ValueError") = some true)
def xk_BadText_BadName : PySem.W.Frag → Bool := fun K => decide (PySem.W.kitOne K (.ref (He.ga K "BadText")) (.ref (He.ga K "BadName")) = some false)
def fn : List He.DefD := [d_run_end, d_token_end, d_tokens, d_law_state, d_law_draw, d_law_pick, d_law_mixed, d_law_is_int, d_law_same, d_law_reserved, d_law_word, d_law_piece, d_law_touch, d_law_laid, d_law_split, d_law]
def fa : List He.Fa := [.glo "run_end", .glo "token_end", .glo "tokens", .glo "_law_state", .glo "_law_draw", .glo "_law_pick", .glo "_law_mixed", .glo "_law_is_int", .glo "_law_same", .glo "_law_reserved", .glo "_law_word", .glo "_law_piece", .glo "_law_touch", .glo "_law_laid", .glo "_law_split", .glo "law", .free "len", .free "isinstance", .free "range", .free "list", .free "int", .free "str", .free "bool", .free "dict", .free "tuple", .free "super", .free "ValueError", .str "LETTERS" "abcdefghijklmnopqrstuvwxyz", .str "DIGITS" "0123456789", .glo "SIGNS", .glo "BadText", .glo "BadName", .glo "ElseputError", .exm "BadText" "ElseputError" true]
def ex : Ex := [x_SIGNS, xo_BadText, xi_BadText, xo_BadName, xi_BadName, xk_BadText_BadText, xk_BadText_ValueError, xk_BadText_BadName]
def fi : List IniD := [i_BadText, i_BadName]
abbrev Tx (K : PySem.W.Frag) (mg : Str → Option Value) : Prop := FactsN fa fn ex fi K mg
section
variable {K : PySem.W.Frag} {mg : Str → Option Value}
theorem Tx.F_run_end (T : Tx K mg) : FunD K "run_end" "run_end" (defArgs s_run_end) (defBody s_run_end) (defScope s_run_end) [] [] (He.fAd K at_run_end) (fdOf K at_run_end) := Facts.fun_ T.b 0 d_run_end
theorem Tx.b_run_end (T : Tx K mg) : Binds K (fdOf K at_run_end) ["line", "start", "chars"] [] := T.F_run_end.bindsN (ps := ["line", "start", "chars"]) fun _ _ _ _ _ _ us hl => match us, hl with | [_, _, _], _ => rfl
theorem Tx.m_run_end (T : Tx K mg) : mg "run_end" = some (.ref (He.fAd K at_run_end)) := Facts.glo T.b 0 "run_end"
theorem Tx.F_token_end (T : Tx K mg) : FunD K "token_end" "token_end" (defArgs s_token_end) (defBody s_token_end) (defScope s_token_end) [] [] (He.fAd K at_token_end) (fdOf K at_token_end) := Facts.fun_ T.b 1 d_token_end
theorem Tx.b_token_end (T : Tx K mg) : Binds K (fdOf K at_token_end) ["line", "start"] [] := T.F_token_end.bindsN (ps := ["line", "start"]) fun _ _ _ _ _ _ us hl => match us, hl with | [_, _], _ => rfl
theorem Tx.m_token_end (T : Tx K mg) : mg "token_end" = some (.ref (He.fAd K at_token_end)) := Facts.glo T.b 1 "token_end"
theorem Tx.F_tokens (T : Tx K mg) : FunD K "tokens" "tokens" (defArgs s_tokens) (defBody s_tokens) (defScope s_tokens) [] [] (He.fAd K at_tokens) (fdOf K at_tokens) := Facts.fun_ T.b 2 d_tokens
theorem Tx.b_tokens (T : Tx K mg) : Binds K (fdOf K at_tokens) ["line"] [] := T.F_tokens.bindsN (ps := ["line"]) fun _ _ _ _ _ _ us hl => match us, hl with | [_], _ => rfl
theorem Tx.m_tokens (T : Tx K mg) : mg "tokens" = some (.ref (He.fAd K at_tokens)) := Facts.glo T.b 2 "tokens"
theorem Tx.F_law_state (T : Tx K mg) : FunD K "_law_state" "_law_state" (defArgs s_law_state) (defBody s_law_state) (defScope s_law_state) [] [] (He.fAd K at_law_state) (fdOf K at_law_state) := Facts.fun_ T.b 3 d_law_state
theorem Tx.b_law_state (T : Tx K mg) : Binds K (fdOf K at_law_state) ["script"] [] := T.F_law_state.bindsN (ps := ["script"]) fun _ _ _ _ _ _ us hl => match us, hl with | [_], _ => rfl
theorem Tx.m_law_state (T : Tx K mg) : mg "_law_state" = some (.ref (He.fAd K at_law_state)) := Facts.glo T.b 3 "_law_state"
theorem Tx.F_law_draw (T : Tx K mg) : FunD K "_law_draw" "_law_draw" (defArgs s_law_draw) (defBody s_law_draw) (defScope s_law_draw) [] [] (He.fAd K at_law_draw) (fdOf K at_law_draw) := Facts.fun_ T.b 4 d_law_draw
theorem Tx.b_law_draw (T : Tx K mg) : Binds K (fdOf K at_law_draw) ["state", "many"] [] := T.F_law_draw.bindsN (ps := ["state", "many"]) fun _ _ _ _ _ _ us hl => match us, hl with | [_, _], _ => rfl
theorem Tx.m_law_draw (T : Tx K mg) : mg "_law_draw" = some (.ref (He.fAd K at_law_draw)) := Facts.glo T.b 4 "_law_draw"
theorem Tx.F_law_pick (T : Tx K mg) : FunD K "_law_pick" "_law_pick" (defArgs s_law_pick) (defBody s_law_pick) (defScope s_law_pick) [] [] (He.fAd K at_law_pick) (fdOf K at_law_pick) := Facts.fun_ T.b 5 d_law_pick
theorem Tx.b_law_pick (T : Tx K mg) : Binds K (fdOf K at_law_pick) ["state", "row"] [] := T.F_law_pick.bindsN (ps := ["state", "row"]) fun _ _ _ _ _ _ us hl => match us, hl with | [_, _], _ => rfl
theorem Tx.m_law_pick (T : Tx K mg) : mg "_law_pick" = some (.ref (He.fAd K at_law_pick)) := Facts.glo T.b 5 "_law_pick"
theorem Tx.F_law_mixed (T : Tx K mg) : FunD K "_law_mixed" "_law_mixed" (defArgs s_law_mixed) (defBody s_law_mixed) (defScope s_law_mixed) [] [] (He.fAd K at_law_mixed) (fdOf K at_law_mixed) := Facts.fun_ T.b 6 d_law_mixed
theorem Tx.b_law_mixed (T : Tx K mg) : Binds K (fdOf K at_law_mixed) ["state", "row"] [] := T.F_law_mixed.bindsN (ps := ["state", "row"]) fun _ _ _ _ _ _ us hl => match us, hl with | [_, _], _ => rfl
theorem Tx.m_law_mixed (T : Tx K mg) : mg "_law_mixed" = some (.ref (He.fAd K at_law_mixed)) := Facts.glo T.b 6 "_law_mixed"
theorem Tx.F_law_is_int (T : Tx K mg) : FunD K "_law_is_int" "_law_is_int" (defArgs s_law_is_int) (defBody s_law_is_int) (defScope s_law_is_int) [] [] (He.fAd K at_law_is_int) (fdOf K at_law_is_int) := Facts.fun_ T.b 7 d_law_is_int
theorem Tx.b_law_is_int (T : Tx K mg) : Binds K (fdOf K at_law_is_int) ["thing"] [] := T.F_law_is_int.bindsN (ps := ["thing"]) fun _ _ _ _ _ _ us hl => match us, hl with | [_], _ => rfl
theorem Tx.m_law_is_int (T : Tx K mg) : mg "_law_is_int" = some (.ref (He.fAd K at_law_is_int)) := Facts.glo T.b 7 "_law_is_int"
theorem Tx.F_law_same (T : Tx K mg) : FunD K "_law_same" "_law_same" (defArgs s_law_same) (defBody s_law_same) (defScope s_law_same) [] [] (He.fAd K at_law_same) (fdOf K at_law_same) := Facts.fun_ T.b 8 d_law_same
theorem Tx.b_law_same (T : Tx K mg) : Binds K (fdOf K at_law_same) ["actual", "due"] [] := T.F_law_same.bindsN (ps := ["actual", "due"]) fun _ _ _ _ _ _ us hl => match us, hl with | [_, _], _ => rfl
theorem Tx.m_law_same (T : Tx K mg) : mg "_law_same" = some (.ref (He.fAd K at_law_same)) := Facts.glo T.b 8 "_law_same"
theorem Tx.F_law_reserved (T : Tx K mg) : FunD K "_law_reserved" "_law_reserved" (defArgs s_law_reserved) (defBody s_law_reserved) (defScope s_law_reserved) [] [] (He.fAd K at_law_reserved) (fdOf K at_law_reserved) := Facts.fun_ T.b 9 d_law_reserved
theorem Tx.b_law_reserved (T : Tx K mg) : Binds K (fdOf K at_law_reserved) [] [] := T.F_law_reserved.bindsN (ps := []) fun _ _ _ _ _ _ us hl => match us, hl with | [], _ => rfl
theorem Tx.m_law_reserved (T : Tx K mg) : mg "_law_reserved" = some (.ref (He.fAd K at_law_reserved)) := Facts.glo T.b 9 "_law_reserved"
theorem Tx.F_law_word (T : Tx K mg) : FunD K "_law_word" "_law_word" (defArgs s_law_word) (defBody s_law_word) (defScope s_law_word) [] [] (He.fAd K at_law_word) (fdOf K at_law_word) := Facts.fun_ T.b 10 d_law_word
theorem Tx.b_law_word (T : Tx K mg) : Binds K (fdOf K at_law_word) ["state", "size"] [] := T.F_law_word.bindsN (ps := ["state", "size"]) fun _ _ _ _ _ _ us hl => match us, hl with | [_, _], _ => rfl
theorem Tx.m_law_word (T : Tx K mg) : mg "_law_word" = some (.ref (He.fAd K at_law_word)) := Facts.glo T.b 10 "_law_word"
theorem Tx.F_law_piece (T : Tx K mg) : FunD K "_law_piece" "_law_piece" (defArgs s_law_piece) (defBody s_law_piece) (defScope s_law_piece) [] [] (He.fAd K at_law_piece) (fdOf K at_law_piece) := Facts.fun_ T.b 11 d_law_piece
theorem Tx.b_law_piece (T : Tx K mg) : Binds K (fdOf K at_law_piece) ["state"] [] := T.F_law_piece.bindsN (ps := ["state"]) fun _ _ _ _ _ _ us hl => match us, hl with | [_], _ => rfl
theorem Tx.m_law_piece (T : Tx K mg) : mg "_law_piece" = some (.ref (He.fAd K at_law_piece)) := Facts.glo T.b 11 "_law_piece"
theorem Tx.F_law_touch (T : Tx K mg) : FunD K "_law_touch" "_law_touch" (defArgs s_law_touch) (defBody s_law_touch) (defScope s_law_touch) [] [] (He.fAd K at_law_touch) (fdOf K at_law_touch) := Facts.fun_ T.b 12 d_law_touch
theorem Tx.b_law_touch (T : Tx K mg) : Binds K (fdOf K at_law_touch) ["one", "two"] [] := T.F_law_touch.bindsN (ps := ["one", "two"]) fun _ _ _ _ _ _ us hl => match us, hl with | [_, _], _ => rfl
theorem Tx.m_law_touch (T : Tx K mg) : mg "_law_touch" = some (.ref (He.fAd K at_law_touch)) := Facts.glo T.b 12 "_law_touch"
theorem Tx.F_law_laid (T : Tx K mg) : FunD K "_law_laid" "_law_laid" (defArgs s_law_laid) (defBody s_law_laid) (defScope s_law_laid) [] [] (He.fAd K at_law_laid) (fdOf K at_law_laid) := Facts.fun_ T.b 13 d_law_laid
theorem Tx.b_law_laid (T : Tx K mg) : Binds K (fdOf K at_law_laid) ["state", "pieces"] [] := T.F_law_laid.bindsN (ps := ["state", "pieces"]) fun _ _ _ _ _ _ us hl => match us, hl with | [_, _], _ => rfl
theorem Tx.m_law_laid (T : Tx K mg) : mg "_law_laid" = some (.ref (He.fAd K at_law_laid)) := Facts.glo T.b 13 "_law_laid"
theorem Tx.F_law_split (T : Tx K mg) : FunD K "_law_split" "_law_split" (defArgs s_law_split) (defBody s_law_split) (defScope s_law_split) [] [] (He.fAd K at_law_split) (fdOf K at_law_split) := Facts.fun_ T.b 14 d_law_split
theorem Tx.b_law_split (T : Tx K mg) : Binds K (fdOf K at_law_split) ["line"] [] := T.F_law_split.bindsN (ps := ["line"]) fun _ _ _ _ _ _ us hl => match us, hl with | [_], _ => rfl
theorem Tx.m_law_split (T : Tx K mg) : mg "_law_split" = some (.ref (He.fAd K at_law_split)) := Facts.glo T.b 14 "_law_split"
theorem Tx.F_law (T : Tx K mg) : FunD K "law" "law" (defArgs s_law) (defBody s_law) (defScope s_law) [] [] (He.fAd K at_law) (fdOf K at_law) := Facts.fun_ T.b 15 d_law
theorem Tx.b_law (T : Tx K mg) : Binds K (fdOf K at_law) ["script"] [] := T.F_law.bindsN (ps := ["script"]) fun _ _ _ _ _ _ us hl => match us, hl with | [_], _ => rfl
theorem Tx.m_law (T : Tx K mg) : mg "law" = some (.ref (He.fAd K at_law)) := Facts.glo T.b 15 "law"
theorem Tx.z_len (T : Tx K mg) : mg "len" = none := Facts.free T.b 16 "len"
theorem Tx.z_isinstance (T : Tx K mg) : mg "isinstance" = none := Facts.free T.b 17 "isinstance"
theorem Tx.z_range (T : Tx K mg) : mg "range" = none := Facts.free T.b 18 "range"
theorem Tx.z_list (T : Tx K mg) : mg "list" = none := Facts.free T.b 19 "list"
theorem Tx.z_int (T : Tx K mg) : mg "int" = none := Facts.free T.b 20 "int"
theorem Tx.z_str (T : Tx K mg) : mg "str" = none := Facts.free T.b 21 "str"
theorem Tx.z_bool (T : Tx K mg) : mg "bool" = none := Facts.free T.b 22 "bool"
theorem Tx.z_dict (T : Tx K mg) : mg "dict" = none := Facts.free T.b 23 "dict"
theorem Tx.z_tuple (T : Tx K mg) : mg "tuple" = none := Facts.free T.b 24 "tuple"
theorem Tx.z_super (T : Tx K mg) : mg "super" = none := Facts.free T.b 25 "super"
theorem Tx.z_ValueError (T : Tx K mg) : mg "ValueError" = none := Facts.free T.b 26 "ValueError"
theorem Tx.g_LETTERS (T : Tx K mg) : ∃ u, mg "LETTERS" = some u ∧ RelV (.str "abcdefghijklmnopqrstuvwxyz") u := Facts.str T.b 27 "LETTERS" "abcdefghijklmnopqrstuvwxyz"
theorem Tx.g_DIGITS (T : Tx K mg) : ∃ u, mg "DIGITS" = some u ∧ RelV (.str "0123456789") u := Facts.str T.b 28 "DIGITS" "0123456789"
theorem Tx.g_SIGNS (T : Tx K mg) : ∃ u, mg "SIGNS" = some u ∧ RelV (.ref (He.ga K "SIGNS")) u := Facts.obj T.b 29 "SIGNS"
theorem Tx.t_SIGNS (T : Tx K mg) (H : Hp) : SqT K H (He.ga K "SIGNS") (c_SIGNS.map V.str) := He.tupB_ok (x := "SIGNS") (vs := c_SIGNS.map He.Dv.str) (Facts.exf T.b 0 x_SIGNS) H
theorem Tx.m_BadText (T : Tx K mg) : mg "BadText" = some (.ref (He.ga K "BadText")) := Facts.glo T.b 30 "BadText"
theorem Tx.m_BadName (T : Tx K mg) : mg "BadName" = some (.ref (He.ga K "BadName")) := Facts.glo T.b 31 "BadName"
theorem Tx.m_ElseputError (T : Tx K mg) : mg "ElseputError" = some (.ref (He.ga K "ElseputError")) := Facts.glo T.b 32 "ElseputError"
theorem Tx.o_BadText (T : Tx K mg) : Own K "BadText" ["line", "column"] := ownB_ok (Facts.exf T.b 1 xo_BadText)
theorem Tx.S_BadText (T : Tx K mg) : ∃ cc, SupF PP K mg (He.ma K (He.ga K "BadText") "__init__") (fdOf K ("BadText", some "__init__")) (i_BadText.nf K) (He.ga K "BadText") cc := FactsN.supF T 0 i_BadText (Facts.exf T.b 2 xi_BadText) T.o_BadText T.z_super
theorem Tx.I_BadText {w : World} {base : Heap} (T : Tx K mg) : FnOk PP w K mg base CX0 1 (He.ma K (He.ga K "BadText") "__init__") (fdOf K ("BadText", some "__init__")) ["self", "line", "column"] (spI K (He.ga K "BadText") ["line", "column"]) := by
  obtain ⟨cc, S⟩ := T.S_BadText
  exact fn_init2 S nsc_BadText rfl rfl rfl (by decide) (by decide) (by decide) (by decide)
theorem Tx.B_BadText (T : Tx K mg) : Binds K (fdOf K ("BadText", some "__init__")) ["self", "line", "column"] [] := by
  obtain ⟨cc, S⟩ := T.S_BadText
  obtain ⟨oc, od, osl, doc, pm, ctv, e, _⟩ := S.fn
  rw [e]
  exact .all fun us hl => match us, hl with | [_, _, _], _ => rfl
theorem Tx.o_BadName (T : Tx K mg) : Own K "BadName" ["name"] := ownB_ok (Facts.exf T.b 3 xo_BadName)
theorem Tx.S_BadName (T : Tx K mg) : ∃ cc, SupF PP K mg (He.ma K (He.ga K "BadName") "__init__") (fdOf K ("BadName", some "__init__")) (i_BadName.nf K) (He.ga K "BadName") cc := FactsN.supF T 1 i_BadName (Facts.exf T.b 4 xi_BadName) T.o_BadName T.z_super
theorem Tx.I_BadName {w : World} {base : Heap} (T : Tx K mg) : FnOk PP w K mg base CX0 1 (He.ma K (He.ga K "BadName") "__init__") (fdOf K ("BadName", some "__init__")) ["self", "name"] (spI K (He.ga K "BadName") ["name"]) := by
  obtain ⟨cc, S⟩ := T.S_BadName
  exact fn_init1 S nsc_BadName rfl rfl rfl (by decide) (by decide)
theorem Tx.B_BadName (T : Tx K mg) : Binds K (fdOf K ("BadName", some "__init__")) ["self", "name"] [] := by
  obtain ⟨cc, S⟩ := T.S_BadName
  obtain ⟨oc, od, osl, doc, pm, ctv, e, _⟩ := S.fn
  rw [e]
  exact .all fun us hl => match us, hl with | [_, _], _ => rfl
theorem Tx.c_BadText_ElseputError (T : Tx K mg) : PySem.W.exmOne K (.ref (He.ga K "BadText")) (.ref (He.ga K "ElseputError")) = some true := He.exm_ok (Facts.fct T.b 33 (.exm "BadText" "ElseputError" true))
theorem Tx.k_BadText_BadText (T : Tx K mg) : PySem.W.kitOne K (.ref (He.ga K "BadText")) (.ref (He.ga K "BadText")) = some true := of_decide_eq_true (Facts.exf T.b 5 xk_BadText_BadText)
theorem Tx.k_BadText_ValueError (T : Tx K mg) : PySem.W.kitOne K (.ref (He.ga K "BadText")) (.type "ValueError") = some true := of_decide_eq_true (Facts.exf T.b 6 xk_BadText_ValueError)
theorem Tx.k_BadText_BadName (T : Tx K mg) : PySem.W.kitOne K (.ref (He.ga K "BadText")) (.ref (He.ga K "BadName")) = some false := of_decide_eq_true (Facts.exf T.b 7 xk_BadText_BadName)
end
end K01
namespace K01
open PySem PySem.Spec PyProof.Rows L2 TK
section
variable {P : Program} {w : World} {K : PySem.W.Frag} {mg : Str → Option Value} {base : Heap}
def sp_is_int : Sp := fun vs H Q _ => ∃ (x : V) (d : D), vs = [x] ∧ Is H x d ∧ Q (.bl (match d with | .int _ => true | _ => false)) H
theorem ok_law_is_int (T : Tx K mg) : FnOk P w K mg base CX0 1 (He.fAd K at_law_is_int) (fdOf K at_law_is_int) ["thing"] sp_is_int := by
  refine T.F_law_is_int.ok sc_law_is_int (fun vs H Q E h => ?_) (fun cdv A outer s H vs Q E hr h => ?_)
  · obtain ⟨_, _, rfl, _⟩ := h
    rfl
  obtain ⟨x, d, rfl, hx, k⟩ := h
  refine ⟨_, PSs.nox (pss_one (ps_ret (pe_and (pe_callB call_isi (by rfl) T.z_isinstance (by decide +kernel) (pa_cons (pv 0) (pa_cons (pe_bltn (by rfl) T.z_int (by decide +kernel) (v := .ty "int") rfl) pa_nil))) (pe_one (pe_not (pe_callB call_isi (by rfl) T.z_isinstance (by decide +kernel) (pa_cons (pv 0) (pa_cons (pe_bltn (by rfl) T.z_bool (by decide +kernel) (v := .ty "bool") rfl) pa_nil)))))))), ?_⟩
  dsimp only [cxOf, Cx.nox, Cx.wish, L2.start, List.map, List.length, List.replicate, List.append]
  have hx' := hx
  cases hx <;> (walk_at "rdi"; exact k)
theorem ok_law_same1 (T : Tx K mg) {k : Nat} {R : D → Prop} (hk : 1 ≤ k) (G_law_same : FnOk P w K mg base CX0 k (He.fAd K at_law_same) (fdOf K at_law_same) ["actual", "due"] (sp_same R)) : FnOk P w K mg base CX0 (k + 1) (He.fAd K at_law_same) (fdOf K at_law_same) ["actual", "due"] (sp_same (Deeper R)) := by
  have G_law_is_int := (ok_law_is_int (P := P) (w := w) (base := base) T).mono hk
  refine T.F_law_same.ok sc_law_same (fun vs H Q E h => ?_) (fun cdv A outer s H vs Q E hr h => ?_)
  · obtain ⟨_, _, _, rfl, _⟩ := h
    rfl
  obtain ⟨x, y, d, rfl, hx, hy, hR, q⟩ := h
  refine ⟨_, PSs.nox (pss_cons (ps_if (pt_cmpR op_isN (pv 1) pe_non (nomark _))
     (pss_one (ps_ret (pe_cmpR op_isN (pv 0) pe_non (nomark _))))
     pss_nil)
    (pss_cons (ps_if (pt_cmpR op_isA (pv 1) pe_bl (nomark _))
     (pss_one (ps_ret (pe_cmpR op_isA (pv 0) pe_bl (nomark _))))
     pss_nil)
    (pss_cons (ps_if (pt_cmpR op_isA (pv 1) pe_bl (nomark _))
     (pss_one (ps_ret (pe_cmpR op_isA (pv 0) pe_bl (nomark _))))
     pss_nil)
    (pss_cons (ps_if (pt_val (pe_callB call_isi (by rfl) T.z_isinstance (by decide +kernel) (pa_cons (pv 1) (pa_cons (pe_bltn (by rfl) T.z_int (by decide +kernel) (v := .ty "int") rfl) pa_nil))))
     (pss_one (ps_ret (pe_and (pe_call G_law_is_int (hr.mono (by first | decide | omega)) (by rfl) T.m_law_is_int T.F_law_is_int.kp T.b_law_is_int .nil pass0 (pa_cons (pv 0) pa_nil)) (pe_one (pe_cmpR op_eqA (pv 0) (pv 1) (nomark _))))))
     pss_nil)
    (pss_cons (ps_if (pt_val (pe_callB call_isi (by rfl) T.z_isinstance (by decide +kernel) (pa_cons (pv 1) (pa_cons (pe_bltn (by rfl) T.z_str (by decide +kernel) (v := .ty "str") rfl) pa_nil))))
     (pss_one (ps_ret (pe_and (pe_callB call_isi (by rfl) T.z_isinstance (by decide +kernel) (pa_cons (pv 0) (pa_cons (pe_bltn (by rfl) T.z_str (by decide +kernel) (v := .ty "str") rfl) pa_nil))) (pe_one (pe_cmpR op_eqA (pv 0) (pv 1) (nomark _))))))
     pss_nil)
    (pss_cons (ps_if (pt_val (pe_callB call_isi (by rfl) T.z_isinstance (by decide +kernel) (pa_cons (pv 1) (pa_cons (pe_bltn (by rfl) T.z_dict (by decide +kernel) (v := .ty "dict") rfl) pa_nil))))
     (pss_cons (ps_if (PW.pt (pw_or (pt_not (pt_val (pe_callB call_isi (by rfl) T.z_isinstance (by decide +kernel) (pa_cons (pv 0) (pa_cons (pe_bltn (by rfl) T.z_dict (by decide +kernel) (v := .ty "dict") rfl) pa_nil))))) (pw_or1 (pt_cmpR op_neA (pe_callB call_lenA (by rfl) T.z_len PySem.boot_len (pa_cons (pv 0) pa_nil)) (pe_callB call_lenA (by rfl) T.z_len PySem.boot_len (pa_cons (pv 1) pa_nil)) (nomark _)))))
      (pss_one (ps_ret pe_bl))
      pss_nil)
     (pss_cons ps_never
     (pss_one (ps_ret pe_bl))))
     pss_nil)
    (pss_cons (ps_if (PW.pt (pw_and (pt_val (pe_callB call_isi (by rfl) T.z_isinstance (by decide +kernel) (pa_cons (pv 1) (pa_cons (pe_bltn (by rfl) T.z_list (by decide +kernel) (v := .ty "list") rfl) pa_nil)))) (pw_and1 (pt_not (pt_val (pe_callB call_isi (by rfl) T.z_isinstance (by decide +kernel) (pa_cons (pv 0) (pa_cons (pe_bltn (by rfl) T.z_list (by decide +kernel) (v := .ty "list") rfl) pa_nil))))))))
     (pss_one (ps_ret pe_bl))
     pss_nil)
    (pss_cons (ps_if (PW.pt (pw_and (pt_val (pe_callB call_isi (by rfl) T.z_isinstance (by decide +kernel) (pa_cons (pv 1) (pa_cons (pe_bltn (by rfl) T.z_tuple (by decide +kernel) (v := .ty "tuple") rfl) pa_nil)))) (pw_and1 (pt_not (pt_val (pe_callB call_isi (by rfl) T.z_isinstance (by decide +kernel) (pa_cons (pv 0) (pa_cons (pe_bltn (by rfl) T.z_tuple (by decide +kernel) (v := .ty "tuple") rfl) pa_nil))))))))
     (pss_one (ps_ret pe_bl))
     pss_nil)
    (pss_cons (ps_if (pt_cmpR op_neA (pe_callB call_lenA (by rfl) T.z_len PySem.boot_len (pa_cons (pv 0) pa_nil)) (pe_callB call_lenA (by rfl) T.z_len PySem.boot_len (pa_cons (pv 1) pa_nil)) (nomark _))
     (pss_one (ps_ret pe_bl))
     pss_nil)
    (pss_cons (ps_for PassesOwn.never rfl (pi_range1 rfl T.z_range (pa_cons (pe_callB call_lenA (by rfl) T.z_len PySem.boot_len (pa_cons (pv 1) pa_nil)) pa_nil)) (pg_name (i := 3) sc_law_same.nd rfl (by first | exact .inl rfl | exact .inr rfl))
     (pss_one (ps_if (pt_not (pt_val (pe_call G_law_same (hr.mono (by first | decide | omega)) (by rfl) T.m_law_same T.F_law_same.kp T.b_law_same .nil pass0 (pa_cons (pe_ix ix_A (pv 0) (pv 3) (fun _ _ => rfl)) (pa_cons (pe_ix ix_A (pv 1) (pv 3) (fun _ _ => rfl)) pa_nil)))))
      (pss_one (ps_ret pe_bl))
      pss_nil)))
    (pss_one (ps_ret pe_bl)))))))))))), ?_⟩
  dsimp only [cxOf, Cx.nox, Cx.wish, L2.start, List.map, List.length, List.replicate, List.append]
  have hx' := hx
  have hy' := hy
  cases hy with
  | non =>
    cases hx
    walk_at "rdi"
    exact same_end q
  | int i =>
    cases hx
    walk_at "rdi"
    exact same_end q
  | bl b =>
    cases hx
    cases b <;> (walk_at "rdi"; exact same_end q)
  | str s hz =>
    cases hx
    walk_at "rdi"
    exact same_end q
  | @lst p vs ds e z a =>
    cases hx with
    | @lst p2 vs2 _ e2 z2 a2 =>
      have el := a2.len.trans a.len.symm
      walk_at "rdi"
      rw [el, decide_eq_true rfl]
      refine iteF ?_
      walk_at "ri1"
      walk_at "ri1"
      refine ⟨_, rfl, by omega, by rw [sizeLine_eq] at z; omega, ?_⟩
      refine for_range (fun i σ H' => Here (∃ o, σ = [some (.ref p2), some (.ref p), none, o] ∧ Same H H')) (.mk ⟨none, rfl, Same.refl _⟩) (fun i σ H' hi q' => ?_) (fun σ H' q' => ?_)
      · obtain ⟨o, rfl, s1⟩ := q'.out
        have hl : i < vs.length := by omega
        have hl2 : i < vs2.length := by omega
        have g1 := List.getElem?_eq_getElem hl
        have g2 := List.getElem?_eq_getElem hl2
        obtain ⟨d, hd, ia⟩ := a.get g1
        obtain ⟨d', hd', ib⟩ := a2.get g2
        rw [hd] at hd'
        cases hd'
        have ia := ia.mono s1
        have ib := ib.mono s1
        have hRd : R d := hR d (List.mem_of_getElem? hd)
        have x1 : atI vs ((0 : Int) + (i : Nat)) = some vs[i] := by rw [Int.zero_add]; exact atI_nat g1
        have x2 : atI vs2 ((0 : Int) + (i : Nat)) = some vs2[i] := by rw [Int.zero_add]; exact atI_nat g2
        have e := s1 _ _ e
        have e2 := s1 _ _ e2
        walk_at "rdi"
        refine ⟨_, _, d, rfl, ib, ia, hRd, fun H'' s2 => ?_⟩
        walk_at "rdi"
        exact .mk ⟨_, rfl, s1.trans s2⟩
      · obtain ⟨o, rfl, s1⟩ := q'.out
        walk_at "rdi"
        exact q H' s1
  | @tup p vs ds e z a =>
    cases hx with
    | @tup p2 vs2 _ e2 z2 a2 =>
      have el := a2.len.trans a.len.symm
      walk_at "rdi"
      rw [el, decide_eq_true rfl]
      refine iteF ?_
      walk_at "ri1"
      walk_at "ri1"
      refine ⟨_, rfl, by omega, by rw [sizeLine_eq] at z; omega, ?_⟩
      refine for_range (fun i σ H' => Here (∃ o, σ = [some (.ref p2), some (.ref p), none, o] ∧ Same H H')) (.mk ⟨none, rfl, Same.refl _⟩) (fun i σ H' hi q' => ?_) (fun σ H' q' => ?_)
      · obtain ⟨o, rfl, s1⟩ := q'.out
        have hl : i < vs.length := by omega
        have hl2 : i < vs2.length := by omega
        have g1 := List.getElem?_eq_getElem hl
        have g2 := List.getElem?_eq_getElem hl2
        obtain ⟨d, hd, ia⟩ := a.get g1
        obtain ⟨d', hd', ib⟩ := a2.get g2
        rw [hd] at hd'
        cases hd'
        have ia := ia.mono s1
        have ib := ib.mono s1
        have hRd : R d := hR d (List.mem_of_getElem? hd)
        have x1 : atI vs ((0 : Int) + (i : Nat)) = some vs[i] := by rw [Int.zero_add]; exact atI_nat g1
        have x2 : atI vs2 ((0 : Int) + (i : Nat)) = some vs2[i] := by rw [Int.zero_add]; exact atI_nat g2
        have e := s1 _ _ e
        have e2 := s1 _ _ e2
        walk_at "rdi"
        refine ⟨_, _, d, rfl, ib, ia, hRd, fun H'' s2 => ?_⟩
        walk_at "rdi"
        exact .mk ⟨_, rfl, s1.trans s2⟩
      · obtain ⟨o, rfl, s1⟩ := q'.out
        walk_at "rdi"
        exact q H' s1
/-- alike trees of depth n are told alike -/
theorem ok_law_same (T : Tx K mg) : ∀ n : Nat, FnOk P w K mg base CX0 (n + 2) (He.fAd K at_law_same) (fdOf K at_law_same) ["actual", "due"] (sp_same (Fits n))
  | 0 => ok_never.imp fun vs H Q E h => by
    obtain ⟨_, _, _, _, _, _, z, _⟩ := h
    exact z
  | n + 1 => ok_law_same1 T (by omega) (ok_law_same T n)

end
end K01
namespace K01
open PySem PySem.Spec PyProof.Rows L2 TK
theorem tw_len {α : Type} {p : α → Bool} : ∀ {l : List α} {j : Nat}, j ≤ l.length → (l.take j).all p = true → (∀ c, l[j]? = some c → p c = false) → (l.takeWhile p).length = j
  | [], j, hj, _, _ => by
    have : j = 0 := by simpa using hj
    subst this
    rfl
  | c :: l, 0, _, _, h => by
    have := h c rfl
    simp [List.takeWhile, this]
  | c :: l, j + 1, hj, ha, h => by
    rw [List.take_succ_cons, List.all_cons, Bool.and_eq_true] at ha
    rw [List.takeWhile_cons, if_pos ha.1, List.length_cons, tw_len (by simpa using hj) ha.2 fun d hd => h d (by simpa using hd)]
abbrev letters : Str := "abcdefghijklmnopqrstuvwxyz"
abbrev digits : Str := "0123456789"
abbrev marks : Str := "<>(),;:"
def signs : List (List Nat) := c_SIGNS.map fun z => z.cps.toList
theorem dash_iff (c : Nat) : V.str ⟨#[c]⟩ = V.str "-" ↔ c = 45 := by
  constructor
  · intro h
    have h : (⟨#[c]⟩ : Str) = ⟨#[45]⟩ := V.str.inj h
    have h := congrArg (fun z => z.cps.toList) h
    simpa using h
  · rintro rfl
    rfl
/-- where a run of signs of cs ends -/
def runEnd (l cs : List Nat) (i : Nat) : Nat := i + ((l.drop i).takeWhile fun c => decide (c ∈ cs)).length
def sp_run_end : Sp := fun vs H Q _ => ∃ (x cs : Str) (i : Nat), vs = [.str x, .int i, .str cs] ∧ x.length ≤ sizeLine ∧ i ≤ x.length ∧ Q (.int (runEnd x.cps.toList cs.cps.toList i)) H
section
variable {P : Program} {w : World} {K : PySem.W.Frag} {mg : Str → Option Value} {base : Heap}
theorem ok_run_end (T : Tx K mg) : FnOk P w K mg base CX0 1 (He.fAd K at_run_end) (fdOf K at_run_end) ["line", "start", "chars"] sp_run_end := by
  refine T.F_run_end.ok sc_run_end (fun vs H Q E h => ?_) (fun cdv A outer s H vs Q E hr h => ?_)
  · obtain ⟨_, _, _, rfl, _⟩ := h
    rfl
  obtain ⟨x, cs, i, rfl, hl, hi, k⟩ := h
  refine ⟨_, PSs.nox (pss_cons (ps_set (i := 3) sc_run_end.nd rfl (by first | exact .inl rfl | exact .inr rfl) (pv 1))
    (pss_cons (ps_while PassesOwn.never (PW.pt (pw_and (pt_cmpR op_ltA (pv 3) (pe_callB call_lenA (by rfl) T.z_len PySem.boot_len (pa_cons (pv 0) pa_nil)) (nomark _)) (pw_and1 (pt_cmpR op_inA (pe_ix ix_A (pv 0) (pv 3) (fun _ _ => rfl)) (pv 2) (by rfl)))))
     (pss_one (ps_aug (i := 3) sc_run_end.nd rfl (by first | exact .inl rfl | exact .inr rfl) pe_int ip_add)))
    (pss_one (ps_ret (pv 3))))), ?_⟩
  dsimp only [cxOf, Cx.nox, Cx.wish, L2.start, List.map, List.length, List.replicate, List.append]
  walk_at "rd"
  refine while_m (fun m σ H' => Here (∃ j : Nat, σ = [some (.str x), some (.int i), some (.str cs), some (.int (i + j : Nat))] ∧ H' = H ∧ i + j ≤ x.length ∧ m = x.length - (i + j) ∧ ((x.cps.toList.drop i).take j).all (fun c => decide (c ∈ cs.cps.toList)) = true)) (x.length - i) (.mk ⟨0, rfl, rfl, hi, rfl, rfl⟩) (fun m σ H' p => ?_)
  obtain ⟨j, rfl, rfl, hj, rfl, ha⟩ := p.out
  walk_at "rd"
  refine ite2 (fun e => ?_) (fun e => ?_)
  · have hlt : i + j < x.cps.toList.length := by rw [← len_cps]; have := of_decide_eq_true e; omega
    have g := List.getElem?_eq_getElem hlt
    have hx : atI x.cps.toList ((i + j : Nat) : Int) = some x.cps.toList[i + j] := atI_nat g
    have gd : (x.cps.toList.drop i)[j]? = some x.cps.toList[i + j] := by rw [List.getElem?_drop]; exact g
    walk_at "rd"
    refine ite2 (fun e2 => ?_) (fun e2 => ?_)
    · refine ⟨fun σ' H' => Here _, fun _ _ h => h.out, ?_⟩
      walk_at "rd"
      refine .mk ⟨x.length - (i + (j + 1)), by rw [← len_cps] at hlt; omega, .mk ⟨j + 1, by rfl, rfl, by rw [← len_cps] at hlt; omega, rfl, all_take gd ha (by simpa using e2)⟩⟩
    · walk_at "rd"
      have z : runEnd x.cps.toList cs.cps.toList i = i + j := by
        unfold runEnd
        rw [tw_len (j := j) (by rw [List.length_drop]; omega) ha fun c hc => by rw [gd] at hc; cases hc; simpa using e2]
      rw [← z]
      exact k
  · walk_at "rd"
    have z : runEnd x.cps.toList cs.cps.toList i = i + j := by
      unfold runEnd
      have hge : x.cps.toList.length ≤ i + j := by rw [← len_cps]; have := of_decide_eq_false (Bool.eq_false_iff.mpr e); omega
      rw [tw_len (j := j) (by rw [List.length_drop, ← len_cps]; omega) ha fun c hc => by
        rw [List.getElem?_drop, List.getElem?_eq_none hge] at hc
        cases hc]
    rw [← z]
    exact k
/-- where a token ends that begins at i -/
def tokEnd (l : List Nat) (i c : Nat) : Nat :=
  if c ∈ letters.cps.toList then runEnd l letters.cps.toList i else if c ∈ digits.cps.toList then runEnd l digits.cps.toList i else
  if c = 45 then (if runEnd l digits.cps.toList (i + 1) > i + 1 then runEnd l digits.cps.toList (i + 1) else i) else
  if (l.drop i).take 2 ∈ signs then i + ((l.drop i).take 2).length else if c ∈ marks.cps.toList then i + 1 else i
def sp_token_end : Sp := fun vs H Q _ => ∃ (x : Str) (i : Nat) (c : Nat), vs = [.str x, .int i] ∧ x.length ≤ sizeLine ∧ x.cps.toList[i]? = some c ∧ Q (.int (tokEnd x.cps.toList i c)) H
theorem ok_token_end (T : Tx K mg) : FnOk P w K mg base CX0 2 (He.fAd K at_token_end) (fdOf K at_token_end) ["line", "start"] sp_token_end := by
  have G_run_end := ok_run_end (P := P) (w := w) (base := base) T
  refine T.F_token_end.ok sc_token_end (fun vs H Q E h => ?_) (fun cdv A outer s H vs Q E hr h => ?_)
  · obtain ⟨_, _, _, rfl, _⟩ := h
    rfl
  obtain ⟨x, i, c, rfl, hl, hc, k⟩ := h
  refine ⟨_, PSs.nox (pss_cons (ps_set (i := 2) sc_token_end.nd rfl (by first | exact .inl rfl | exact .inr rfl) (pe_ix ix_A (pv 0) (pv 1) (fun _ _ => rfl)))
    (pss_cons (ps_if (pt_cmpR op_inA (pv 2) (pe_globE (by rfl) T.g_LETTERS) (by rfl))
     (pss_one (ps_ret (pe_call G_run_end (hr.mono (by first | decide | omega)) (by rfl) T.m_run_end T.F_run_end.kp T.b_run_end .nil pass0 (pa_cons (pv 0) (pa_cons (pv 1) (pa_cons (pe_globE (by rfl) T.g_LETTERS) pa_nil))))))
     pss_nil)
    (pss_cons (ps_if (pt_cmpR op_inA (pv 2) (pe_globE (by rfl) T.g_DIGITS) (by rfl))
     (pss_one (ps_ret (pe_call G_run_end (hr.mono (by first | decide | omega)) (by rfl) T.m_run_end T.F_run_end.kp T.b_run_end .nil pass0 (pa_cons (pv 0) (pa_cons (pv 1) (pa_cons (pe_globE (by rfl) T.g_DIGITS) pa_nil))))))
     pss_nil)
    (pss_cons (ps_if (pt_cmpR op_eqA (pv 2) pe_str (nomark _))
     (pss_cons (ps_set (i := 3) sc_token_end.nd rfl (by first | exact .inl rfl | exact .inr rfl) (pe_call G_run_end (hr.mono (by first | decide | omega)) (by rfl) T.m_run_end T.F_run_end.kp T.b_run_end .nil pass0 (pa_cons (pv 0) (pa_cons (pe_op op_addA (pv 1) pe_int) (pa_cons (pe_globE (by rfl) T.g_DIGITS) pa_nil)))))
     (pss_one (ps_ret (pe_ifExp (pt_cmpR op_gt (pv 3) (pe_op op_addA (pv 1) pe_int) (nomark _)) (pv 3) (pv 1)))))
     pss_nil)
    (pss_cons (ps_if (pt_cmpR op_inA (pe_slice sl_A (pv 0) (po_some (pv 1)) (po_some (pe_op op_addA (pv 1) pe_int))) (pe_globE (by rfl) T.g_SIGNS) (by rfl))
     (pss_one (ps_ret (pe_op op_addA (pv 1) (pe_callB call_lenA (by rfl) T.z_len PySem.boot_len (pa_cons (pe_slice sl_A (pv 0) (po_some (pv 1)) (po_some (pe_op op_addA (pv 1) pe_int))) pa_nil)))))
     pss_nil)
    (pss_cons (ps_if (pt_cmpR op_inA (pv 2) pe_str (by rfl))
     (pss_one (ps_ret (pe_op op_addA (pv 1) pe_int)))
     pss_nil)
    (pss_one (ps_ret (pv 1))))))))), ?_⟩
  have tS := T.t_SIGNS H
  have hx : atI x.cps.toList (i : Int) = some c := atI_nat hc
  have hlt : i < x.length := by rw [len_cps]; exact (List.getElem?_eq_some_iff.mp hc).1
  dsimp only [cxOf, Cx.nox, Cx.wish, L2.start, List.map, List.length, List.replicate, List.append]
  have hle : i ≤ x.length := by omega
  walk_at "rd"
  refine ite2 (fun e1 => ?_) (fun e1 => ?_)
  · walk_at "rd"
    refine ⟨x, letters, i, rfl, hl, hle, ?_⟩
    rw [tokEnd, if_pos (of_decide_eq_true e1)] at k
    exact k
  rw [tokEnd, if_neg (by simpa using e1)] at k
  walk_at "rd"
  refine ite2 (fun e2 => ?_) (fun e2 => ?_)
  · walk_at "rd"
    refine ⟨x, digits, i, rfl, hl, hle, ?_⟩
    rw [if_pos (of_decide_eq_true e2)] at k
    exact k
  rw [if_neg (by simpa using e2)] at k
  walk_at "rd"
  refine ite2 (fun e3 => ?_) (fun e3 => ?_)
  · have e3 := (dash_iff c).mp (of_decide_eq_true e3)
    rw [if_pos e3] at k
    walk_at "rd"
    refine ⟨x, digits, i + 1, rfl, hl, by omega, ?_⟩
    walk_at "rd"
    refine ite2 (fun e4 => ?_) (fun e4 => ?_)
    · walk_at "rd"
      rw [if_pos (by have := of_decide_eq_true e4; omega)] at k
      exact k
    · walk_at "rd"
      rw [if_neg (fun z => e4 (decide_eq_true (by omega)))] at k
      exact k
  rw [if_neg (fun z => e3 (decide_eq_true ((dash_iff c).mpr z)))] at k
  have sl : (cutS x (some (i : Int)) (some ((i : Int) + 2))).cps.toList = (x.cps.toList.drop i).take 2 := by
    rw [cutS_both (by omega) (by omega)]
    congr 1
    omega
  have ll : (cutS x (some (i : Int)) (some ((i : Int) + 2))).length ≤ sizeLine := Nat.le_trans (cutS_length _ _ _) hl
  have lt : (cutS x (some (i : Int)) (some ((i : Int) + 2))).length = ((x.cps.toList.drop i).take 2).length := by rw [len_cps, sl]
  have ms : inV (.str (cutS x (some (i : Int)) (some ((i : Int) + 2)))) (c_SIGNS.map V.str) = decide ((x.cps.toList.drop i).take 2 ∈ signs) := by
    rw [inV_strs, decide_eq_decide, mem_cpsl, sl]
    rfl
  walk_at "rd"
  rw [ms]
  refine ite2 (fun e4 => ?_) (fun e4 => ?_)
  · rw [if_pos (of_decide_eq_true e4)] at k
    walk_at "rd"
    rw [lt]
    exact k
  rw [if_neg (by simpa using e4)] at k
  walk_at "rd"
  refine ite2 (fun e5 => ?_) (fun e5 => ?_)
  · rw [if_pos (of_decide_eq_true e5)] at k
    walk_at "rd"
    exact k
  · rw [if_neg (by simpa using e5)] at k
    walk_at "rd"
    exact k
end
end K01
namespace K01
open PySem PySem.Spec PyProof.Rows L2 TK
/-- the tokens of a line from i on, or the column of the first sign that is none -/
def toks : Nat → List Nat → Nat → Except Nat (List (List Nat × Nat))
  | 0, _, _ => .ok []
  | n + 1, l, i => match l[i]? with
    | none => .ok []
    | some c => if c = 32 then toks n l (i + 1) else if tokEnd l i c = i then .error (i + 1) else match toks n l (tokEnd l i c) with
      | .ok r => .ok (((l.drop i).take (tokEnd l i c - i), i + 1) :: r)
      | .error z => .error z
/-- at v: the token t, its tuple -/
def TokAt (H : Hp) (v : V) (t : List Nat × Nat) : Prop := ∃ (a : Addr) (z : Str), v = .ref a ∧ H a = some (.tup [.str z, .int t.2]) ∧ z.cps.toList = t.1 ∧ z.length ≤ sizeLine
inductive ToksAt (H : Hp) : List V → List (List Nat × Nat) → Prop
  | nil : ToksAt H [] []
  | snoc {vs ts v t} (h : ToksAt H vs ts) (k : TokAt H v t) : ToksAt H (vs ++ [v]) (ts ++ [t])
theorem TokAt.keep {H H' : Hp} {v : V} {t : List Nat × Nat} (s : ∀ b xs, H b = some (.tup xs) → H' b = some (.tup xs)) (h : TokAt H v t) : TokAt H' v t := by
  obtain ⟨a, z, e, h1, h2, h3⟩ := h
  exact ⟨a, z, e, s _ _ h1, h2, h3⟩
theorem ToksAt.keep {H H' : Hp} {vs : List V} {ts : List (List Nat × Nat)} (s : ∀ b xs, H b = some (.tup xs) → H' b = some (.tup xs)) (h : ToksAt H vs ts) : ToksAt H' vs ts := by
  induction h with
  | nil => exact .nil
  | snoc h k ih => exact .snoc ih (k.keep s)
theorem ToksAt.len {H : Hp} {vs : List V} {ts : List (List Nat × Nat)} (h : ToksAt H vs ts) : vs.length = ts.length := by
  induction h with
  | nil => rfl
  | snoc h k ih => rw [List.length_append, List.length_append, ih]; rfl
theorem tokEnd_le {l : List Nat} {i c : Nat} (h : l[i]? = some c) : tokEnd l i c ≤ l.length := by
  have hi := (List.getElem?_eq_some_iff.mp h).1
  have run : ∀ cs j, j ≤ l.length → runEnd l cs j ≤ l.length := fun cs j hj => by
    unfold runEnd
    have := (List.takeWhile_sublist (p := fun c => decide (c ∈ cs)) (l := l.drop j)).length_le
    rw [List.length_drop] at this
    omega
  unfold tokEnd
  have h1 := run letters.cps.toList i (by omega)
  have h2 := run digits.cps.toList i (by omega)
  have h3 := run digits.cps.toList (i + 1) (by omega)
  have h4 : ((l.drop i).take 2).length ≤ l.length - i := by rw [List.length_take, List.length_drop]; omega
  repeat' split
  all_goals omega
theorem tokEnd_ge {l : List Nat} {i c : Nat} : i ≤ tokEnd l i c := by
  have run : ∀ cs j, j ≤ runEnd l cs j := fun cs j => Nat.le_add_right _ _
  have h1 := run letters.cps.toList i
  have h2 := run digits.cps.toList i
  unfold tokEnd
  repeat' split
  all_goals omega
/-- tokens found ahead of the rest -/
def tot (acc : List (List Nat × Nat)) : Except Nat (List (List Nat × Nat)) → Except Nat (List (List Nat × Nat))
  | .ok r => .ok (acc ++ r)
  | .error z => .error z
theorem sp_iff (c : Nat) : V.str ⟨#[c]⟩ = V.str " " ↔ c = 32 := by
  constructor
  · intro h
    have h : (⟨#[c]⟩ : Str) = ⟨#[32]⟩ := V.str.inj h
    have h := congrArg (fun z => z.cps.toList) h
    simpa using h
  · rintro rfl
    rfl
def sp_tokens (K : PySem.W.Frag) : Sp := fun vs H Q E => ∃ (x : Str), vs = [.str x] ∧ x.length ≤ 1000000 ∧ (∀ r, toks (x.length + 1) x.cps.toList 0 = .ok r → ∀ p us H', Same H H' → H p = none → H' p = some (.lst us) → ToksAt H' us r → Q (.ref p) H') ∧
  ∀ col : Nat, toks (x.length + 1) x.cps.toList 0 = .error col → ∀ d H', Same H H' → H' d = some (.xd [("column", .int col), ("line", .int 1)]) → E (.ref (He.ga K "BadText")) (some d) H'
section
variable {w : World} {K : PySem.W.Frag} {mg : Str → Option Value} {base : Heap}
theorem ok_tokens (T : Tx K mg) : FnOk PP w K mg base (L2.CX PP w) 3 (He.fAd K at_tokens) (fdOf K at_tokens) ["line"] (sp_tokens K) := by
  have G_token_end := ok_token_end (P := PP) (w := w) (base := base) T
  refine T.F_tokens.ok (CX := L2.CX PP w) sc_tokens (fun vs H Q E h => ?_) (fun cdv A outer s H vs Q E hr h => ?_)
  · obtain ⟨_, rfl, _⟩ := h
    rfl
  obtain ⟨x, rfl, hl, k, kE⟩ := h
  refine ⟨_, (pss_cons (ps_set (i := 1) sc_tokens.nd rfl (by first | exact .inl rfl | exact .inr rfl) (pe_lst pa_nil))
    (pss_cons (ps_set (i := 2) sc_tokens.nd rfl (by first | exact .inl rfl | exact .inr rfl) pe_int)
    (pss_cons (ps_while (passes_of rfl) (pt_cmpR op_ltA (pv 2) (pe_callB call_lenA (by rfl) T.z_len PySem.boot_len (pa_cons (pv 0) pa_nil)) (nomark _))
     (pss_cons (ps_if (pt_cmpR op_eqA (pe_ix ix_A (pv 0) (pv 2) (fun _ _ => rfl)) pe_str (nomark _))
      (pss_cons (ps_aug (i := 2) sc_tokens.nd rfl (by first | exact .inl rfl | exact .inr rfl) pe_int ip_add)
      (pss_one ps_continue))
      pss_nil)
     (pss_cons (ps_set (i := 3) sc_tokens.nd rfl (by first | exact .inl rfl | exact .inr rfl) (pe_call G_token_end (hr.mono (by first | decide | omega)) (by rfl) T.m_token_end T.F_token_end.kp T.b_token_end .nil pass0 (pa_cons (pv 0) (pa_cons (pv 2) pa_nil))))
     (pss_cons (ps_if (pt_cmpR op_eqA (pv 3) (pv 2) (nomark _))
      (pss_one (ps_raise rfl (takes_of rfl rfl rfl rfl) (pmk_flds T.o_BadText.v T.o_BadText.i T.o_BadText.t T.o_BadText.n T.I_BadText (hr.mono (by first | decide | omega)) T.B_BadText pass0 (by rfl) T.m_BadText (pa_cons pe_int (pa_cons (pe_op op_addA (pv 2) pe_int) pa_nil)))))
      pss_nil)
     (pss_cons (ps_expr (pe_bm PySem.F.plainAttrs_list PySem.F.slot_list_append PySem.F.type_list_append mt_append (pv 1) (pa_cons (pe_tup (pa_cons (pe_slice sl_A (pv 0) (po_some (pv 2)) (po_some (pv 3))) (pa_cons (pe_op op_addA (pv 2) pe_int) pa_nil))) pa_nil)))
     (pss_one (ps_set (i := 2) sc_tokens.nd rfl (by first | exact .inl rfl | exact .inr rfl) (pv 3))))))))
    (pss_one (ps_ret (pv 1)))))), ?_⟩
  have hz : x.length ≤ sizeLine := line_le hl (by decide)
  dsimp only [cxOf, Cx.nox, Cx.wish, L2.start, List.map, List.length, List.replicate, List.append]
  walk_at "rd"
  intro p np
  refine while_m (fun n σ H' => Here (∃ (i : Nat) (acc : List (List Nat × Nat)) (us : List V) (o : Option V), σ = [some (.str x), some (.ref p), some (.int i), o] ∧ Same H H' ∧ H' p = some (.lst us) ∧ ToksAt H' us acc ∧ i ≤ x.length ∧ x.length < i + n ∧ acc.length ≤ i ∧
    toks (x.length + 1) x.cps.toList 0 = tot acc (toks n x.cps.toList i))) (x.length + 1) (.mk ⟨0, [], [], none, rfl, same_new np, upd_same, .nil, Nat.zero_le _, by omega, Nat.le_refl _, ?_⟩) (fun n σ H' q => ?_)
  · cases toks (x.length + 1) x.cps.toList 0 <;> rfl
  obtain ⟨i, acc, us, o, rfl, s1, hp, ha, hi, hn, hac, ht⟩ := q.out
  obtain ⟨n, rfl⟩ : ∃ m, n = m + 1 := ⟨n - 1, by omega⟩
  walk_at "rd"
  refine ite2 (fun e => ?_) (fun e => ?_)
  · have hlt : i < x.cps.toList.length := by rw [← len_cps]; have := of_decide_eq_true e; omega
    have hix : i < x.length := by rw [len_cps]; exact hlt
    obtain ⟨c, hc⟩ : ∃ c, x.cps.toList[i]? = some c := ⟨_, List.getElem?_eq_getElem hlt⟩
    have hx : atI x.cps.toList (i : Int) = some c := atI_nat hc
    have ht' : toks (x.length + 1) x.cps.toList 0 = tot acc (if c = 32 then toks n x.cps.toList (i + 1) else if tokEnd x.cps.toList i c = i then .error (i + 1) else match toks n x.cps.toList (tokEnd x.cps.toList i c) with
      | .ok r => .ok (((x.cps.toList.drop i).take (tokEnd x.cps.toList i c - i), i + 1) :: r)
      | .error z => .error z) := by rw [ht]; simp only [toks, hc]
    refine ⟨fun σ' H' => Here _, fun _ _ h => h.out, ?_⟩
    walk_at "rd"
    refine ite2 (fun e2 => ?_) (fun e2 => ?_)
    · rw [if_pos ((sp_iff c).mp (of_decide_eq_true e2))] at ht'
      walk_at "rd"
      exact .mk ⟨n, by omega, .mk ⟨i + 1, acc, us, o, by rfl, s1, hp, ha, by omega, by omega, by omega, ht'⟩⟩
    rw [if_neg (fun z => e2 (decide_eq_true ((sp_iff c).mpr z)))] at ht'
    walk_at "rd"
    refine ⟨x, i, c, rfl, hz, hc, ?_⟩
    have b1 : i ≤ tokEnd x.cps.toList i c := tokEnd_ge
    have b2 := tokEnd_le hc
    rw [← len_cps] at b2
    walk_at "rd"
    refine ite2 (fun e3 => ?_) (fun e3 => ?_)
    · have e3 : tokEnd x.cps.toList i c = i := by
        have z := of_decide_eq_true e3
        injection z with z
        omega
      rw [if_pos e3] at ht'
      walk_at "rd"
      exact fun d hd => kE (i + 1) ht' d _ (s1.trans (same_new hd)) upd_same
    have e3 : tokEnd x.cps.toList i c ≠ i := fun z => e3 (decide_eq_true (by rw [z]))
    rw [if_neg e3] at ht'
    walk_at "rd"
    refine ⟨.inl ⟨rfl, _, SqL.of hp⟩, ?_⟩
    walk_at "rd"
    intro t nt
    have npt : p ≠ t := ne_of_none hp nt
    have hus : us.length < sizeLine := by have := ha.len; rw [sizeLine_eq]; omega
    refine ⟨p, us, _, rfl, rfl, by rw [upd_ne npt]; exact hp, hus, ?_⟩
    walk_at "rd"
    refine .mk ⟨n, by omega, .mk ⟨tokEnd x.cps.toList i c, acc ++ [((x.cps.toList.drop i).take (tokEnd x.cps.toList i c - i), i + 1)], us ++ [.ref t], _, rfl, fun b o q => ?_, upd_same, .snoc (ha.keep fun b xs q => ?_) ⟨t, _, rfl, by rw [upd_ne (Ne.symm npt), upd_same]; rfl, ?_, ?_⟩, b2, by omega, ?_, ?_⟩⟩
    · rw [upd_ne (ne_of_none q np), upd_ne (ne_of_none (s1 _ _ q) nt)]
      exact s1 _ _ q
    · have nb : b ≠ p := fun z => by
        rw [z, hp] at q
        cases q
      rw [upd_ne nb, upd_ne (ne_of_none q nt)]
      exact q
    · rw [cutS_both (by omega) (by omega)]
      congr 1
    · exact Nat.le_trans (cutS_length _ _ _) hz
    · rw [List.length_append]
      show acc.length + 1 ≤ _
      omega
    · rw [ht']
      cases toks n x.cps.toList (tokEnd x.cps.toList i c) with
      | ok r => simp [tot]
      | error z => rfl
  · have e : ¬ (i < x.length) := fun z => e (decide_eq_true (by omega))
    walk_at "rd"
    have hnone : x.cps.toList[i]? = none := List.getElem?_eq_none (by rw [← len_cps]; omega)
    refine k acc ?_ p us H' s1 np hp ha
    rw [ht]
    simp only [toks, hnone, tot, List.append_nil]
end
end K01
namespace K01
open PySem PySem.Spec PyProof.Rows L2 TK
def sp_split : Sp := fun vs H Q _ => ∃ (x : Str), vs = [.str x] ∧ x.length ≤ 1000000 ∧ (∀ r, toks (x.length + 1) x.cps.toList 0 = .ok r → ∀ t p us H', Same H H' → H p = none → H' t = some (.tup [.str "let", .ref p]) → H' p = some (.lst us) → ToksAt H' us r → Q (.ref t) H') ∧
  ∀ col : Nat, toks (x.length + 1) x.cps.toList 0 = .error col → ∀ t H', Same H H' → H' t = some (.tup [.str "refused", .int 1, .int col]) → Q (.ref t) H'
section
variable {w : World} {K : PySem.W.Frag} {mg : Str → Option Value} {base : Heap}
theorem ok_law_split (T : Tx K mg) : FnOk PP w K mg base CX0 4 (He.fAd K at_law_split) (fdOf K at_law_split) ["line"] sp_split := by
  have G_tokens := ok_tokens (w := w) (base := base) T
  refine T.F_law_split.ok sc_law_split (fun vs H Q E h => ?_) (fun cdv A outer s H vs Q E hr h => ?_)
  · obtain ⟨_, rfl, _⟩ := h
    rfl
  obtain ⟨x, rfl, hl, k, kE⟩ := h
  refine ⟨_, PSs.nox (pss_cons (ps_try_as (i := 1) (Wout := fun _ _ _ _ => False) (tb := fun W => tRet (tTup (tCons (tC (.str "let")) (tCons (tCallS (sp_tokens K) (WE W) (tCons (tVar 0) tNil)) tNil)))) rfl rfl sc_law_split.nd rfl rfl ⟨rfl, by decide, .inl T.m_ElseputError⟩ takes0
    (fun W pn xe tk _ => pss_one (ps_ret (pe_tup (pa_cons pe_str (pa_cons (pe_callS G_tokens (hr.mono (by decide)) (by rfl) T.m_tokens T.F_tokens.kp T.b_tokens (fun σ => passAt tk σ) (pa_cons (pv 0) pa_nil)) pa_nil)))))
    (fun a oe cls d pn hz hf => pss_one (ps_if (PW.pt (pw_and (pt_val (pe_callB (call_isD hz hf) (by rfl) T.z_isinstance (by decide +kernel) (pa_cons (pv 1) (pa_cons (pe_globE (v := .ref (He.ga K "BadText")) (by rfl) ⟨_, T.m_BadText, rfl⟩) pa_nil))))
        (pw_and (pt_val (pe_callB (call_isD hz hf) (by rfl) T.z_isinstance (by decide +kernel) (pa_cons (pv 1) (pa_cons (pe_bltn (by rfl) T.z_ValueError (by decide +kernel) (v := .ty "ValueError") rfl) pa_nil))))
        (pw_and1 (pt_not (pt_val (pe_callB (call_isD hz hf) (by rfl) T.z_isinstance (by decide +kernel) (pa_cons (pv 1) (pa_cons (pe_globE (v := .ref (He.ga K "BadName")) (by rfl) ⟨_, T.m_BadName, rfl⟩) pa_nil)))))))))
      (pss_one (ps_ret (pe_tup (pa_cons pe_str (pa_cons (pe_xf T.o_BadText.f (T.o_BadText.n "line" (by simp)) hz hf (pv 1)) (pa_cons (pe_xf T.o_BadText.f (T.o_BadText.n "column" (by simp)) hz hf (pv 1)) pa_nil)))))) pss_nil)))
    (pss_one (ps_ret (pe_tup (pa_cons pe_str pa_nil))))), ?_⟩
  dsimp only [cxOf, Cx.nox, Cx.wish, L2.start, List.map, List.length, List.replicate, List.append]
  walk_at "rd"
  refine ⟨fun r hr' p us H' s1 np hp ht => ?_, fun col hc d H' s1 hd => ?_⟩
  · walk_at "rd"
    intro t nt
    have npt : p ≠ t := ne_of_none hp nt
    exact k r hr' t p us _ (s1.trans (same_new nt)) np upd_same (by rw [upd_ne npt]; exact hp) (ht.keep fun b xs q => by rw [upd_ne (ne_of_none q nt)]; exact q)
  · refine ⟨true, T.c_BadText_ElseputError, fun _ a na => ?_, fun z => nomatch z⟩
    walk_at "rd"
    refine ⟨He.ga K "BadText", d, .ref (He.ga K "BadText"), .ref (He.ga K "BadText"), true, _, rfl, rfl, T.o_BadText.e, rfl, .own _, T.k_BadText_BadText, hd, ?_⟩
    walk_at "rd"
    refine ⟨He.ga K "BadText", d, .ty "ValueError", .type "ValueError", true, _, rfl, rfl, T.o_BadText.e, rfl, .ty _, T.k_BadText_ValueError, hd, ?_⟩
    walk_at "rd"
    refine ⟨He.ga K "BadText", d, .ref (He.ga K "BadName"), .ref (He.ga K "BadName"), false, _, rfl, rfl, T.o_BadText.e, rfl, .own _, T.k_BadText_BadName, hd, ?_⟩
    walk_at "rd"
    refine ⟨d, _, .int 1, rfl, hd, rfl, ?_⟩
    walk_at "rd"
    refine ⟨d, _, .int col, rfl, hd, rfl, ?_⟩
    walk_at "rd"
    intro t nt
    exact kE col hc t _ (s1.trans (same_new nt)) upd_same
end
end K01
namespace K01
open PySem PySem.Spec PyProof.Rows L2 TK
section
variable {P : Program} {w : World} {K : PySem.W.Frag} {mg : Str → Option Value} {base : Heap}
theorem ok_law_state (T : Tx K mg) : FnOk P w K mg base CX0 1 (He.fAd K at_law_state) (fdOf K at_law_state) ["script"] (sp_state K) := by
  refine state_seal (T.F_law_state.ok sc_law_state (fun vs H Q E h => ?_) (fun cdv A outer s H vs Q E hr h => ?_))
  · obtain ⟨a, ns, rfl, _⟩ := h
    rfl
  obtain ⟨a, ns, rfl, hS, hl, k⟩ := h
  refine ⟨_, PSs.nox (pss_one (ps_ret (pe_lst (pa_cons (pe_callTy call_list_of (by rfl) T.z_list (by decide +kernel) (pa_cons (pv 0) pa_nil)) (pa_cons pe_int (pa_cons pe_int (pa_cons pe_int (pa_cons pe_int pa_nil)))))))), ?_⟩
  refine ⟨_, rfl, a, _, rfl, .inl hS, fun q nq => ?_⟩
  refine ⟨Nat.le_of_ble_eq_true rfl, fun st nst => ?_⟩
  have nqs : q ≠ st := ne_of_none upd_same nst
  refine k q st _ ((same_new nq).trans (same_new nst)) ((same_new nq).free nst) (by walk_at "hp") upd_same
theorem ok_law_draw (T : Tx K mg) : FnOk P w K mg base CX0 1 (He.fAd K at_law_draw) (fdOf K at_law_draw) ["state", "many"] sp_draw := by
  refine draw_view (T.F_law_draw.ok sc_law_draw (fun vs H Q E h => ?_) (fun cdv A outer s H vs Q E hr h => ?_))
  · obtain ⟨_, _, _, _, _, rfl, _⟩ := h
    rfl
  obtain ⟨st, q, ns, xs, many, rfl, hl, hq, hst, ⟨i, v, m, c, rfl, h0, h1⟩, m0, m1, k⟩ := h
  refine ⟨_, PSs.nox (pss_cutT (ps_if (pt_cmpR op_eqA (pe_ix ix_A (pv 0) pe_int (fun _ _ => rfl)) pe_int (nomark _))
     (pss_cons (ps_if (pt_cmpR op_ge (pe_ix ix_A (pv 0) pe_int (fun _ _ => rfl)) (pe_callB call_lenA (by rfl) T.z_len PySem.boot_len (pa_cons (pe_ix ix_A (pv 0) pe_int (fun _ _ => rfl)) pa_nil)) (nomark _))
      (pss_one (ps_ret pe_int))
      pss_nil)
     (pss_cons (ps_asg (pe_callTy call_int1 (by rfl) T.z_int (by decide +kernel) (pa_cons (pe_ix ix_A (pe_ix ix_A (pv 0) pe_int (fun _ _ => rfl)) (pe_ix ix_A (pv 0) pe_int (fun _ _ => rfl)) (fun _ _ => rfl)) pa_nil)) (pg_sub (pv 0) pe_int set_A))
     (pss_cons (ps_asg (pe_op op_addA (pe_ix ix_A (pv 0) pe_int (fun _ _ => rfl)) pe_int) (pg_sub (pv 0) pe_int set_A))
     (pss_cons (ps_asg pe_int (pg_sub (pv 0) pe_int set_A))
     (pss_cons (ps_asg pe_int (pg_sub (pv 0) pe_int set_A))
     (pss_one (ps_if (pt_cmpR op_ltA (pe_ix ix_A (pv 0) pe_int (fun _ _ => rfl)) (pe_op op_pow pe_int pe_int) (nomark _))
      (pss_one (ps_asg pe_int (pg_sub (pv 0) pe_int set_A)))
      pss_nil)))))))
     pss_nil)
    (pss_cons (ps_asg (pe_op op_addA (pe_ix ix_A (pv 0) pe_int (fun _ _ => rfl)) pe_int) (pg_sub (pv 0) pe_int set_A))
    (pss_cons (ps_if (pt_cmpR op_eqA (pe_ix ix_A (pv 0) pe_int (fun _ _ => rfl)) pe_int (nomark _))
     (pss_cons (ps_set (i := 2) sc_law_draw.nd rfl (by first | exact .inl rfl | exact .inr rfl) (pe_op op_mod (pe_callTy call_int1 (by rfl) T.z_int (by decide +kernel) (pa_cons (pe_ix ix_A (pv 0) pe_int (fun _ _ => rfl)) pa_nil)) (pv 1)))
     (pss_cons (ps_asg (pe_op op_fdivW (pe_callTy call_int1 (by rfl) T.z_int (by decide +kernel) (pa_cons (pe_ix ix_A (pv 0) pe_int (fun _ _ => rfl)) pa_nil)) (pv 1)) (pg_sub (pv 0) pe_int set_A))
     (pss_cons (ps_if (PW.pt (pw_or (pt_cmpR op_eqA (pe_ix ix_A (pv 0) pe_int (fun _ _ => rfl)) pe_int (nomark _)) (pw_or1 (pt_cmpR op_ge (pe_ix ix_A (pv 0) pe_int (fun _ _ => rfl)) pe_int (nomark _)))))
      (pss_one (ps_asg pe_int (pg_sub (pv 0) pe_int set_A)))
      pss_nil)
     (pss_one (ps_ret (pv 2))))))
     pss_nil)
    (pss_cons (ps_set (i := 3) sc_law_draw.nd rfl (by first | exact .inl rfl | exact .inr rfl) (pe_op op_mod (pe_callTy call_int1 (by rfl) T.z_int (by decide +kernel) (pa_cons (pe_op op_addA (pe_op op_mulA (pe_ix ix_A (pv 0) pe_int (fun _ _ => rfl)) pe_int) (pe_op op_mulA (pe_ix ix_A (pv 0) pe_int (fun _ _ => rfl)) pe_int)) pa_nil)) pe_int))
    (pss_cons (ps_set (i := 4) sc_law_draw.nd rfl (by first | exact .inl rfl | exact .inr rfl) (pe_op op_mod (pe_callTy call_int1 (by rfl) T.z_int (by decide +kernel) (pa_cons (pe_op op_addA (pe_op op_addA (pe_op op_mulA (pv 3) (pv 3)) (pe_op op_mulA (pe_ix ix_A (pv 0) pe_int (fun _ _ => rfl)) pe_int)) pe_int) pa_nil)) pe_int))
    (pss_cutT (ps_if (pt_cmpR op_ge (pe_ix ix_A (pv 0) pe_int (fun _ _ => rfl)) pe_int (nomark _))
     (pss_one (ps_asg pe_int (pg_sub (pv 0) pe_int set_A)))
     pss_nil)
    (pss_cons (ps_set (i := 5) sc_law_draw.nd rfl (by first | exact .inl rfl | exact .inr rfl) (pe_op op_mod (pe_callTy call_int1 (by rfl) T.z_int (by decide +kernel) (pa_cons (pe_op op_addA (pe_op op_mulA (pv 4) pe_int) (pv 3)) pa_nil)) pe_int))
    (pss_one (ps_ret (pe_op op_mod (pe_callTy call_int1 (by rfl) T.z_int (by decide +kernel) (pa_cons (pv 5) pa_nil)) (pv 1))))))))))), ?_⟩
  have nq : q ≠ st := fun e => by
    subst e
    rw [hq] at hst
    injection hst with e
    injection e with e
    cases ns with
    | nil => cases e
    | cons n r => cases e
  dsimp only [cxOf, Cx.nox, Cx.wish, L2.start, List.map, List.length, List.replicate, List.append]
  refine ⟨fun σ H' => Here (∃ i v m c, σ = [some (.ref st), some (.int many), none, none, none, none] ∧ H' st = some (.lst [.ref q, .int i, .int v, .int m, .int c]) ∧ 0 ≤ i ∧ i ≤ (ns.length : Int) ∧ (∀ b o, b ≠ st → H b = some o → H' b = some o)), ?_, fun σ H' hM => ?_⟩
  · walk_at "rd"
    refine ite2 (fun e => ?_) (fun e => ?_)
    · walk_at "rd"
      refine ite2 (fun e => ?_) (fun e => ?_)
      · exact k 0 _ _ hst ⟨i, v, m, c, rfl, h0, h1⟩ (fun _ _ _ e => e) (Int.le_refl _) m0
      · have hi : i < (ns.length : Int) := by
          have q := of_decide_eq_false (Bool.eq_false_iff.mpr e)
          rw [List.length_map] at q
          omega
        have hx := at_ints h0 hi
        walk_at "rd"
        refine ite2 (fun e => ?_) (fun e => ?_)
        · walk_at "rd"
          exact .mk ⟨_, _, _, _, rfl, upd_same, by omega, by omega, fun b o nb e => by rw [upd_upd, upd_upd, upd_upd, upd_upd, upd_ne nb]; exact e⟩
        · exact .mk ⟨_, _, _, _, rfl, upd_same, by omega, by omega, fun b o nb e => by rw [upd_upd, upd_upd, upd_upd, upd_ne nb]; exact e⟩
    · exact .mk ⟨i, v, m, c, rfl, hst, h0, h1, fun _ _ _ e => e⟩
  · obtain ⟨i, v, m, c, rfl, hst, h0, h1, kp⟩ := hM.out
    walk_at "rd"
    refine ite2 (fun e => ?_) (fun e => ?_)
    · walk_at "rd"
      refine ite2 (fun e => ?_) (fun e => ?_)
      · refine iteT ?_
        walk_at "rd"
        exact k _ _ _ upd_same ⟨i, _, _, _, rfl, h0, h1⟩ (fun b o nb e => by rw [upd_upd, upd_upd, upd_ne nb]; exact kp b o nb e) (emod_ge' m0) (emod_lt' m0)
      · walk_at "rd"
        refine ite2 (fun e => ?_) (fun e => ?_)
        · walk_at "rd"
          exact k _ _ _ upd_same ⟨i, _, _, _, rfl, h0, h1⟩ (fun b o nb e => by rw [upd_upd, upd_upd, upd_ne nb]; exact kp b o nb e) (emod_ge' m0) (emod_lt' m0)
        · walk_at "rd"
          exact k _ _ _ upd_same ⟨i, _, _, _, rfl, h0, h1⟩ (fun b o nb e => by rw [upd_upd, upd_ne nb]; exact kp b o nb e) (emod_ge' m0) (emod_lt' m0)
    · walk_at "rd"
      refine ⟨fun σ H' => Here (∃ i v m c x y, σ = [some (.ref st), some (.int many), none, some (.int x), some (.int y), none] ∧ 0 ≤ y ∧ y < 2147483399 ∧ H' st = some (.lst [.ref q, .int i, .int v, .int m, .int c]) ∧ 0 ≤ i ∧ i ≤ (ns.length : Int) ∧ (∀ b o, b ≠ st → H b = some o → H' b = some o)), ?_, fun σ H' hM => ?_⟩
      · walk_at "rd"
        refine ite2 (fun e => ?_) (fun e => ?_)
        · walk_at "rd"
          exact .mk ⟨_, _, _, _, _, _, rfl, emod_ge' (by decide), emod_lt' (by decide), upd_same, h0, h1, fun b o nb e => by rw [upd_upd, upd_ne nb]; exact kp b o nb e⟩
        · exact .mk ⟨_, _, _, _, _, _, rfl, emod_ge' (by decide), emod_lt' (by decide), upd_same, h0, h1, fun b o nb e => by rw [upd_ne nb]; exact kp b o nb e⟩
      · obtain ⟨i, v, m, c, x, y, rfl, hy0, hy1, hst, h0, h1, kp⟩ := hM.out
        walk_at "rd"
        exact k _ _ _ hst ⟨i, _, _, _, rfl, h0, h1⟩ kp (emod_ge' m0) (emod_lt' m0)

theorem ok_law_pick (T : Tx K mg) : FnOk P w K mg base CX0 2 (He.fAd K at_law_pick) (fdOf K at_law_pick) ["state", "row"] (sp_pick K) := by
  have G_law_draw := ok_law_draw (P := P) (w := w) (base := base) T
  refine T.F_law_pick.ok sc_law_pick (fun vs H Q E h => ?_) (fun cdv A outer s H vs Q E hr h => ?_)
  · obtain ⟨_, _, rfl, _⟩ := h
    rfl
  obtain ⟨st, row, rfl, hst, h⟩ := h
  refine ⟨_, PSs.nox (pss_one (ps_ret (pe_ix ix_A (pv 1) (pe_call G_law_draw (hr.mono (by first | decide | omega)) (by rfl) T.m_law_draw T.F_law_draw.kp T.b_law_draw .nil pass0 (pa_cons (pv 0) (pa_cons (pe_callB call_lenA (by rfl) T.z_len PySem.boot_len (pa_cons (pv 1) pa_nil)) pa_nil))) (fun _ _ => rfl)))), ?_⟩
  dsimp only [cxOf, Cx.nox, Cx.wish, L2.start, List.map, List.length, List.replicate, List.append]
  rcases h with ⟨z, rfl, z0, z1, k⟩ | ⟨p, xs, rfl, hp, z0, z1, k⟩
  · have hb := line_big z1
    walk_at "rd"
    intro d H1 s1 d0 d1
    obtain ⟨c, e, m⟩ := at_str d0 d1
    exact .inr (.inr ⟨z, d, c, rfl, rfl, z1, e, k c H1 s1 m⟩)
  · have hb := line_big z1
    have hl : 0 < xs.length := List.length_pos_iff.mpr z0
    walk_at "rd"
    intro d H1 s1 d0 d1
    obtain ⟨v, e, _, m⟩ := at_list d0 d1
    exact .inl ⟨p, xs, d, v, rfl, rfl, SqL.of (s1 _ _ hp), e, k v H1 s1 m⟩

def reserved : List Str := ["always", "never", "and", "or", "not", "when", "add", "set", "change", "tell", "refuse", "take", "look", "free", "lock", "keep", "keys", "fields"]
def sp_reserved : Sp := fun vs H Q _ => vs = [] ∧ ∀ p H', Same H H' → H' p = some (.lst (reserved.map V.str)) → Q (.ref p) H'
theorem ok_law_reserved (T : Tx K mg) : FnOk P w K mg base CX0 1 (He.fAd K at_law_reserved) (fdOf K at_law_reserved) [] sp_reserved := by
  refine T.F_law_reserved.ok sc_law_reserved (fun vs H Q E h => ?_) (fun cdv A outer s H vs Q E hr h => ?_)
  · obtain ⟨rfl, _⟩ := h
    rfl
  obtain ⟨rfl, k⟩ := h
  refine ⟨_, PSs.nox (pss_cons (ps_set (i := 0) sc_law_reserved.nd rfl (by first | exact .inl rfl | exact .inr rfl) (pe_lst (pa_cons pe_str (pa_cons pe_str (pa_cons pe_str (pa_cons pe_str (pa_cons pe_str (pa_cons pe_str (pa_cons pe_str (pa_cons pe_str (pa_cons pe_str (pa_cons pe_str (pa_cons pe_str (pa_cons pe_str pa_nil))))))))))))))
    (pss_one (ps_ret (pe_op op_addA (pv 0) (pe_lst (pa_cons pe_str (pa_cons pe_str (pa_cons pe_str (pa_cons pe_str (pa_cons pe_str (pa_cons pe_str pa_nil))))))))))), ?_⟩
  refine ⟨Nat.le_of_ble_eq_true rfl, fun p np => ?_⟩
  walk_at "rd"
  intro q nq
  have npq : p ≠ q := ne_of_none upd_same nq
  refine .inr (.inr (.inl ⟨p, q, _, _, rfl, rfl, by walk_at "hp", upd_same, Nat.le_of_ble_eq_true rfl, fun r nr => ?_⟩))
  exact k r _ ((same_new np).trans ((same_new nq).trans (same_new nr))) upd_same

/-- a word of small letters of a given length -/
def sp_word : Sp := fun vs H Q _ => ∃ (st : Addr) (n : Nat), vs = [.ref st, .int n] ∧ StAt H st ∧ n ≤ 1000 ∧ ∀ (x : Str) (H' : Hp), Same H H' → x.length = n → (∀ c ∈ x.cps.toList, c ∈ letters.cps.toList) → Q (.str x) H'
theorem ok_law_word (T : Tx K mg) : FnOk P w K mg base CX0 2 (He.fAd K at_law_word) (fdOf K at_law_word) ["state", "size"] sp_word := by
  have G_law_draw := ok_law_draw (P := P) (w := w) (base := base) T
  refine T.F_law_word.ok sc_law_word (fun vs H Q E h => ?_) (fun cdv A outer s H vs Q E hr h => ?_)
  · obtain ⟨_, _, rfl, _⟩ := h
    rfl
  obtain ⟨st, n, rfl, hst, hn, k⟩ := h
  refine ⟨_, PSs.nox (pss_cons (ps_set (i := 2) sc_law_word.nd rfl (by first | exact .inl rfl | exact .inr rfl) pe_str)
    (pss_cons (ps_set (i := 3) sc_law_word.nd rfl (by first | exact .inl rfl | exact .inr rfl) pe_str)
    (pss_cons (ps_set (i := 4) sc_law_word.nd rfl (by first | exact .inl rfl | exact .inr rfl) pe_int)
    (pss_cons (ps_for PassesOwn.never rfl (pi_range1 rfl T.z_range (pa_cons (pv 1) pa_nil)) (pg_name (i := 5) sc_law_word.nd rfl (by first | exact .inl rfl | exact .inr rfl))
     (pss_cutT (ps_if (pt_cmpR op_eqA (pe_op op_mod (pv 5) pe_int) pe_int (nomark _))
      (pss_one (ps_set (i := 4) sc_law_word.nd rfl (by first | exact .inl rfl | exact .inr rfl) (pe_call G_law_draw (hr.mono (by first | decide | omega)) (by rfl) T.m_law_draw T.F_law_draw.kp T.b_law_draw .nil pass0 (pa_cons (pv 0) (pa_cons pe_int pa_nil)))))
      pss_nil)
     (pss_cons (ps_set (i := 3) sc_law_word.nd rfl (by first | exact .inl rfl | exact .inr rfl) (pe_op op_addA (pv 3) (pe_ix ix_A (pv 2) (pe_op op_mod (pe_callTy call_int1 (by rfl) T.z_int (by decide +kernel) (pa_cons (pv 4) pa_nil)) pe_int) (fun _ _ => rfl))))
     (pss_one (ps_set (i := 4) sc_law_word.nd rfl (by first | exact .inl rfl | exact .inr rfl) (pe_op op_fdivW (pe_callTy call_int1 (by rfl) T.z_int (by decide +kernel) (pa_cons (pv 4) pa_nil)) pe_int))))))
    (pss_one (ps_ret (pv 3))))))), ?_⟩
  dsimp only [cxOf, Cx.nox, Cx.wish, L2.start, List.map, List.length, List.replicate, List.append]
  walk_at "rd"
  refine for_range (fun i σ H' => Here (∃ (x : Str) (c : Int) (o : Option V), σ = [some (.ref st), some (.int n), some (.str letters), some (.str x), some (.int c), o] ∧ Same H H' ∧ x.length = i ∧ ∀ c ∈ x.cps.toList, c ∈ letters.cps.toList))
    (.mk ⟨"", 0, none, rfl, Same.refl _, rfl, fun c hc => by cases hc⟩) (fun i σ H' hi p => ?_) (fun σ H' p => ?_)
  · obtain ⟨x, c, o, rfl, s1, hx, hc⟩ := p.out
    refine ⟨fun σ H' => Here (∃ c o, σ = [some (.ref st), some (.int n), some (.str letters), some (.str x), some (.int c), o] ∧ Same H H'), ?_, fun σ H' hM => ?_⟩
    · walk_at "rd"
      refine ite2 (fun e => ?_) (fun e => ?_)
      · walk_at "rd"
        intro d H1 s2 d0 d1
        exact .mk ⟨d, _, rfl, s1.trans s2⟩
      · exact .mk ⟨c, _, rfl, s1⟩
    · obtain ⟨c, o, rfl, s1⟩ := hM.out
      obtain ⟨ch, ech, mch⟩ := at_str (z := letters) (i := c % 26) (emod_ge' (by decide)) (emod_lt' (by decide))
      have hz : x.length + (⟨#[ch]⟩ : Str).length ≤ sizeLine := app_len (m := 1) (Nat.le_refl _) (Nat.le_refl _) (by omega)
      walk_at "rd"
      exact .mk ⟨_, _, _, rfl, s1, by rw [len_app, hx]; rfl, sgn_app hc mch⟩
  · obtain ⟨x, c, o, rfl, s1, hx, hc⟩ := p.out
    walk_at "rd"
    exact k x H' s1 (by omega) hc

end
end K01
namespace K01
open PySem PySem.Spec PyProof.Rows L2 TK
section
variable {P : Program} {w : World} {K : PySem.W.Frag} {mg : Str → Option Value} {base : Heap}
theorem cutV_to {xs : List V} {i : Int} (h0 : 0 ≤ i) : cutV xs none (some i) = xs.take i.toNat := by
  unfold cutV
  show List.take (HT.sIx xs.length xs.length (some i) - HT.sIx xs.length 0 none) (List.drop (HT.sIx xs.length 0 none) xs) = _
  rw [HT.sIx_none, sIx_nat' _ _ _ h0, List.drop_zero, Nat.sub_zero, ← List.take_eq_take_min]
theorem cutV_from {xs : List V} {i : Int} (h0 : 0 ≤ i) : cutV xs (some i) none = xs.drop i.toNat := by
  unfold cutV
  show List.take (HT.sIx xs.length xs.length none - HT.sIx xs.length 0 (some i)) (List.drop (HT.sIx xs.length 0 (some i)) xs) = _
  rw [HT.sIx_none, sIx_nat' _ _ _ h0]
  by_cases h : i.toNat ≤ xs.length
  · rw [Nat.min_eq_left h]
    exact List.take_of_length_le (by rw [List.length_drop]; exact Nat.le_refl _)
  · have e1 : List.drop (min i.toNat xs.length) xs = [] := List.drop_of_length_le (by omega)
    have e2 : List.drop i.toNat xs = [] := List.drop_of_length_le (by omega)
    rw [e1, e2]
    simp
/-- the same items in some order -/
def sp_mixed (K : PySem.W.Frag) : Sp := fun vs H Q _ => ∃ (st p : Addr) (xs : List V), vs = [.ref st, .ref p] ∧ StAt H st ∧ SqL K H p xs ∧ xs.length ≤ 1000 ∧ ∀ (q : Addr) (ys : List V) (H' : Hp), Same H H' → H q = none → H' q = some (.lst ys) → ys.Perm xs → Q (.ref q) H'
theorem ok_law_mixed (T : Tx K mg) : FnOk P w K mg base CX0 2 (He.fAd K at_law_mixed) (fdOf K at_law_mixed) ["state", "row"] (sp_mixed K) := by
  have G_law_draw := ok_law_draw (P := P) (w := w) (base := base) T
  refine T.F_law_mixed.ok sc_law_mixed (fun vs H Q E h => ?_) (fun cdv A outer s H vs Q E hr h => ?_)
  · obtain ⟨_, _, _, rfl, _⟩ := h
    rfl
  obtain ⟨st, p, xs, rfl, hst, hS, hl, k⟩ := h
  refine ⟨_, PSs.nox (pss_cons (ps_set (i := 2) sc_law_mixed.nd rfl (by first | exact .inl rfl | exact .inr rfl) (pe_callTy call_list_of (by rfl) T.z_list (by decide +kernel) (pa_cons (pv 1) pa_nil)))
    (pss_cons (ps_set (i := 3) sc_law_mixed.nd rfl (by first | exact .inl rfl | exact .inr rfl) (pe_lst pa_nil))
    (pss_cons (ps_for PassesOwn.never rfl (pi_range1 rfl T.z_range (pa_cons (pe_callB call_lenA (by rfl) T.z_len PySem.boot_len (pa_cons (pv 1) pa_nil)) pa_nil)) (pg_name (i := 4) sc_law_mixed.nd rfl (by first | exact .inl rfl | exact .inr rfl))
     (pss_cons (ps_set (i := 5) sc_law_mixed.nd rfl (by first | exact .inl rfl | exact .inr rfl) (pe_call G_law_draw (hr.mono (by first | decide | omega)) (by rfl) T.m_law_draw T.F_law_draw.kp T.b_law_draw .nil pass0 (pa_cons (pv 0) (pa_cons (pe_callB call_lenA (by rfl) T.z_len PySem.boot_len (pa_cons (pv 2) pa_nil)) pa_nil))))
     (pss_cons (ps_expr (pe_bm PySem.F.plainAttrs_list PySem.F.slot_list_append PySem.F.type_list_append mt_append (pv 3) (pa_cons (pe_ix ix_A (pv 2) (pv 5) (fun _ _ => rfl)) pa_nil)))
     (pss_one (ps_set (i := 2) sc_law_mixed.nd rfl (by first | exact .inl rfl | exact .inr rfl) (pe_op op_addA (pe_slice sl_A (pv 2) po_none (po_some (pv 5))) (pe_slice sl_A (pv 2) (po_some (pe_op op_addA (pv 5) pe_int)) po_none)))))))
    (pss_one (ps_ret (pv 3)))))), ?_⟩
  dsimp only [cxOf, Cx.nox, Cx.wish, L2.start, List.map, List.length, List.replicate, List.append]
  walk_at "rd"
  refine ⟨p, xs, rfl, .inl hS, fun r nr => ?_⟩
  walk_at "rd"
  intro q nq
  have nrq : r ≠ q := ne_of_none upd_same nq
  have hq0 : H q = none := (same_new nr).free nq
  have sm : Same H (upd (upd H r (.lst xs)) q (.lst [])) := (same_new nr).trans (same_new nq)
  have hS := sm.seq hS
  have hst0 := hst
  have hst := hst.mono sm
  walk_at "rd"
  refine for_range (fun i σ H' => Here (∃ (r : Addr) (rs ys : List V) (o o' : Option V), σ = [some (.ref st), some (.ref p), some (.ref r), some (.ref q), o, o'] ∧ Same H H' ∧ H' r = some (.lst rs) ∧ H' q = some (.lst ys) ∧ r ≠ q ∧ (ys ++ rs).Perm xs ∧ ys.length = i))
    (.mk ⟨r, xs, [], none, none, rfl, sm, by rw [upd_ne nrq]; exact upd_same, upd_same, nrq, .refl _, rfl⟩) (fun i σ H' hi z => ?_) (fun σ H' z => ?_)
  · obtain ⟨r, rs, ys, o, o', rfl, s1, hr1, hq1, nrq, hp, hy⟩ := z.out
    have hlen : ys.length + rs.length = xs.length := by rw [← List.length_append]; exact hp.length_eq
    have hst := hst0.mono s1
    walk_at "rd"
    intro d H1 s2 d0 d1
    obtain ⟨v, ev, ei, mv⟩ := at_list (xs := rs) d0 d1
    have hr2 := s2 _ _ hr1
    have hq2 := s2 _ _ hq1
    have zy : ys.length < sizeLine := by rw [sizeLine_eq]; omega
    have zr : rs.length ≤ sizeLine := by rw [sizeLine_eq]; omega
    walk_at "rd"
    refine ⟨.inl ⟨rfl, _, SqL.of hq2⟩, ?_⟩
    walk_at "rd"
    refine ⟨q, ys, v, rfl, rfl, hq2, zy, ?_⟩
    have hr3 : upd H1 q (.lst (ys ++ [v])) r = some (.lst rs) := by rw [upd_ne nrq]; exact hr2
    walk_at "rd"
    refine .inr (.inl ⟨r, rs, rfl, SqL.of hr3, fun a na => ?_⟩)
    have hr4 : upd (upd H1 q (.lst (ys ++ [v]))) a (.lst (cutV rs none (some d))) r = some (.lst rs) := by rw [upd_ne (ne_of_none hr3 na)]; exact hr3
    walk_at "rd"
    refine .inr (.inl ⟨r, rs, rfl, SqL.of hr4, fun b nb => ?_⟩)
    have nab : a ≠ b := ne_of_none upd_same nb
    have c1 : cutV rs none (some d) = rs.take d.toNat := cutV_to d0
    have c2 : cutV rs (some (d + 1)) none = rs.drop (d + 1).toNat := cutV_from (by omega)
    have zc : (cutV rs none (some d)).length + (cutV rs (some (d + 1)) none).length ≤ sizeLine := by
      rw [c1, c2, List.length_take, List.length_drop]
      rw [sizeLine_eq]
      omega
    walk_at "rd"
    intro r2 nr2
    have nqa : q ≠ a := ne_of_none upd_same na
    have nqb : q ≠ b := ne_of_none (by rw [upd_ne nqa]; exact upd_same) nb
    have nqr : q ≠ r2 := ne_of_none (by rw [upd_ne nqb, upd_ne nqa]; exact upd_same) nr2
    have sq : Same H (upd H1 q (.lst (ys ++ [v]))) := fun c u e => by rw [upd_ne (ne_of_none e hq0)]; exact s2 _ _ (s1 _ _ e)
    refine .mk ⟨r2, _, ys ++ [v], _, _, rfl, ((sq.trans (same_new na)).trans (same_new nb)).trans (same_new nr2), upd_same, by rw [upd_ne nqr, upd_ne nqb, upd_ne nqa]; exact upd_same, Ne.symm nqr, ?_, by rw [List.length_append, hy]; rfl⟩
    rw [c1, c2]
    have en : (d + 1).toNat = d.toNat + 1 := by omega
    have hd : d.toNat < rs.length := by omega
    have er : rs.take d.toNat ++ v :: rs.drop (d.toNat + 1) = rs := by
      have ev2 : rs[d.toNat] = v := by
        rw [List.getElem?_eq_getElem hd] at ei
        exact Option.some.inj ei
      rw [← ev2, ← List.drop_eq_getElem_cons hd, List.take_append_drop]
    rw [en]
    refine .trans ?_ hp
    rw [List.append_assoc]
    exact List.Perm.append_left ys ((List.perm_middle (a := v) (l₁ := rs.take d.toNat) (l₂ := rs.drop (d.toNat + 1))).symm.trans (List.Perm.of_eq er))
  · obtain ⟨r, rs, ys, o, o', rfl, s1, hr1, hq1, nrq, hp, hy⟩ := z.out
    have hlen : ys.length + rs.length = xs.length := by rw [← List.length_append]; exact hp.length_eq
    have e0 : rs = [] := List.length_eq_zero_iff.mp (by omega)
    subst e0
    rw [List.append_nil] at hp
    walk_at "rd"
    exact k q ys H' s1 hq0 hq1 hp

end
end K01
namespace K01
open PySem PySem.Spec PyProof.Rows L2 TK
theorem eqs_iff (c : Nat) : V.str ⟨#[c]⟩ = V.str "=" ↔ c = 61 := by
  constructor
  · intro h
    have h : (⟨#[c]⟩ : Str) = ⟨#[61]⟩ := V.str.inj h
    have h := congrArg (fun z => z.cps.toList) h
    simpa using h
  · rintro rfl
    rfl
/-- whether two pieces would run together -/
def touchB (a b : Str) (la fb : Nat) : Bool :=
  if la ∈ letters.cps.toList ∧ fb ∈ letters.cps.toList then true else if fb ∈ digits.cps.toList ∧ (la ∈ digits.cps.toList ∨ a = "-") then true else decide (fb = 61 ∧ a ∈ (["<", ">", "!", "="] : List Str))
def sp_touch : Sp := fun vs H Q _ => ∃ (a b : Str) (la fb : Nat), vs = [.str a, .str b] ∧ a.length ≤ sizeLine ∧ b.length ≤ sizeLine ∧ a.cps.toList.getLast? = some la ∧ b.cps.toList[0]? = some fb ∧ ∀ H', Same H H' → Q (.bl (touchB a b la fb)) H'
section
variable {P : Program} {w : World} {K : PySem.W.Frag} {mg : Str → Option Value} {base : Heap}
theorem ok_law_touch (T : Tx K mg) : FnOk P w K mg base CX0 1 (He.fAd K at_law_touch) (fdOf K at_law_touch) ["one", "two"] sp_touch := by
  refine T.F_law_touch.ok sc_law_touch (fun vs H Q E h => ?_) (fun cdv A outer s H vs Q E hr h => ?_)
  · obtain ⟨_, _, _, _, rfl, _⟩ := h
    rfl
  obtain ⟨a, b, la, fb, rfl, za, zb, hla, hfb, k⟩ := h
  have xa : atI a.cps.toList (-1) = some la := by
    rw [List.getLast?_eq_getElem?] at hla
    have hl : a.cps.toList.length - 1 < a.cps.toList.length := (List.getElem?_eq_some_iff.mp hla).1
    have e : ixN a.cps.toList.length (-1) = some (a.cps.toList.length - 1) := by
      unfold ixN
      rw [if_neg (by decide)]
      split
      · congr 1
        omega
      · omega
    unfold atI
    rw [e]
    exact hla
  have xb : atI b.cps.toList 0 = some fb := atI_nat hfb
  refine ⟨_, PSs.nox (pss_cons (ps_set (i := 2) sc_law_touch.nd rfl (by first | exact .inl rfl | exact .inr rfl) pe_str)
    (pss_cons (ps_set (i := 3) sc_law_touch.nd rfl (by first | exact .inl rfl | exact .inr rfl) pe_str)
    (pss_cons (ps_if (PW.pt (pw_and (pt_cmpR op_inA (pe_ix ix_A (pv 0) (pe_un un_neg pe_int) (fun _ _ => rfl)) (pv 2) (by rfl)) (pw_and1 (pt_cmpR op_inA (pe_ix ix_A (pv 1) pe_int (fun _ _ => rfl)) (pv 2) (by rfl)))))
     (pss_one (ps_ret pe_bl))
     pss_nil)
    (pss_cons (ps_if (PW.pt (pw_and (pt_cmpR op_inA (pe_ix ix_A (pv 1) pe_int (fun _ _ => rfl)) (pv 3) (by rfl)) (pw_and1 (PW.pt (pw_or (pt_cmpR op_inA (pe_ix ix_A (pv 0) (pe_un un_neg pe_int) (fun _ _ => rfl)) (pv 3) (by rfl)) (pw_or1 (pt_cmpR op_eqA (pv 0) pe_str (nomark _))))))))
     (pss_one (ps_ret pe_bl))
     pss_nil)
    (pss_one (ps_ret (pe_and (pe_cmpR op_eqA (pe_ix ix_A (pv 1) pe_int (fun _ _ => rfl)) pe_str (nomark _)) (pe_one (pe_cmpR op_inA (pv 0) (pe_lst (pa_cons pe_str (pa_cons pe_str (pa_cons pe_str (pa_cons pe_str pa_nil))))) (by rfl)))))))))), ?_⟩
  dsimp only [cxOf, Cx.nox, Cx.wish, L2.start, List.map, List.length, List.replicate, List.append]
  walk_at "rd"
  have fin : ∀ (c : Bool), touchB a b la fb = c → ∀ H', Same H H' → Q (.bl c) H' := fun c e H' s => by rw [← e]; exact k H' s
  by_cases e1 : la ∈ letters.cps.toList
  · rw [decide_eq_true e1]
    walk_at "rd"
    by_cases e2 : fb ∈ letters.cps.toList
    · rw [decide_eq_true e2]
      walk_at "rd"
      exact fin true (by unfold touchB; rw [if_pos ⟨e1, e2⟩]) _ (Same.refl _)
    · rw [decide_eq_false e2]
      walk_at "rd"
      have n12 : ¬ (la ∈ letters.cps.toList ∧ fb ∈ letters.cps.toList) := fun z => e2 z.2
      by_cases e3 : fb ∈ digits.cps.toList
      · rw [decide_eq_true e3]
        walk_at "rd"
        by_cases e4 : la ∈ digits.cps.toList
        · rw [decide_eq_true e4]
          walk_at "rd"
          exact fin true (by unfold touchB; rw [if_neg n12, if_pos ⟨e3, .inl e4⟩]) _ (Same.refl _)
        · rw [decide_eq_false e4]
          walk_at "rd"
          by_cases e5 : V.str a = V.str "-"
          · rw [decide_eq_true e5]
            walk_at "rd"
            exact fin true (by unfold touchB; rw [if_neg n12, if_pos ⟨e3, .inr (V.str.inj e5)⟩]) _ (Same.refl _)
          · rw [decide_eq_false e5]
            walk_at "rd"
            have n3 : ¬ (fb ∈ digits.cps.toList ∧ (la ∈ digits.cps.toList ∨ a = "-")) := fun z => z.2.elim e4 fun y => e5 (congrArg V.str y)
            refine ite2 (fun e6 => ?_) (fun e6 => ?_)
            · have e6 := (eqs_iff fb).mp (of_decide_eq_true e6)
              walk_at "rd"
              intro p np
              walk_at "rd"
              have z : inV (.str a) [.str "<", .str ">", .str "!", .str "="] = decide (a ∈ (["<", ">", "!", "="] : List Str)) := inV_strs a ["<", ">", "!", "="]
              rw [z]
              exact fin _ (by unfold touchB; rw [if_neg n12, if_neg n3, e6]; simp) _ (same_new np)
            · walk_at "rd"
              exact fin false (by unfold touchB; rw [if_neg n12, if_neg n3]; exact decide_eq_false fun z => e6 (decide_eq_true ((eqs_iff fb).mpr z.1))) _ (Same.refl _)
      · rw [decide_eq_false e3]
        walk_at "rd"
        have n3 : ¬ (fb ∈ digits.cps.toList ∧ (la ∈ digits.cps.toList ∨ a = "-")) := fun z => e3 z.1
        refine ite2 (fun e6 => ?_) (fun e6 => ?_)
        · have e6 := (eqs_iff fb).mp (of_decide_eq_true e6)
          walk_at "rd"
          intro p np
          walk_at "rd"
          have z : inV (.str a) [.str "<", .str ">", .str "!", .str "="] = decide (a ∈ (["<", ">", "!", "="] : List Str)) := inV_strs a ["<", ">", "!", "="]
          rw [z]
          exact fin _ (by unfold touchB; rw [if_neg n12, if_neg n3, e6]; simp) _ (same_new np)
        · walk_at "rd"
          exact fin false (by unfold touchB; rw [if_neg n12, if_neg n3]; exact decide_eq_false fun z => e6 (decide_eq_true ((eqs_iff fb).mpr z.1))) _ (Same.refl _)
  · rw [decide_eq_false e1]
    walk_at "rd"
    have n12 : ¬ (la ∈ letters.cps.toList ∧ fb ∈ letters.cps.toList) := fun z => e1 z.1
    by_cases e3 : fb ∈ digits.cps.toList
    · rw [decide_eq_true e3]
      walk_at "rd"
      by_cases e4 : la ∈ digits.cps.toList
      · rw [decide_eq_true e4]
        walk_at "rd"
        exact fin true (by unfold touchB; rw [if_neg n12, if_pos ⟨e3, .inl e4⟩]) _ (Same.refl _)
      · rw [decide_eq_false e4]
        walk_at "rd"
        by_cases e5 : V.str a = V.str "-"
        · rw [decide_eq_true e5]
          walk_at "rd"
          exact fin true (by unfold touchB; rw [if_neg n12, if_pos ⟨e3, .inr (V.str.inj e5)⟩]) _ (Same.refl _)
        · rw [decide_eq_false e5]
          walk_at "rd"
          have n3 : ¬ (fb ∈ digits.cps.toList ∧ (la ∈ digits.cps.toList ∨ a = "-")) := fun z => z.2.elim e4 fun y => e5 (congrArg V.str y)
          refine ite2 (fun e6 => ?_) (fun e6 => ?_)
          · have e6 := (eqs_iff fb).mp (of_decide_eq_true e6)
            walk_at "rd"
            intro p np
            walk_at "rd"
            have z : inV (.str a) [.str "<", .str ">", .str "!", .str "="] = decide (a ∈ (["<", ">", "!", "="] : List Str)) := inV_strs a ["<", ">", "!", "="]
            rw [z]
            exact fin _ (by unfold touchB; rw [if_neg n12, if_neg n3, e6]; simp) _ (same_new np)
          · walk_at "rd"
            exact fin false (by unfold touchB; rw [if_neg n12, if_neg n3]; exact decide_eq_false fun z => e6 (decide_eq_true ((eqs_iff fb).mpr z.1))) _ (Same.refl _)
    · rw [decide_eq_false e3]
      walk_at "rd"
      have n3 : ¬ (fb ∈ digits.cps.toList ∧ (la ∈ digits.cps.toList ∨ a = "-")) := fun z => e3 z.1
      refine ite2 (fun e6 => ?_) (fun e6 => ?_)
      · have e6 := (eqs_iff fb).mp (of_decide_eq_true e6)
        walk_at "rd"
        intro p np
        walk_at "rd"
        have z : inV (.str a) [.str "<", .str ">", .str "!", .str "="] = decide (a ∈ (["<", ">", "!", "="] : List Str)) := inV_strs a ["<", ">", "!", "="]
        rw [z]
        exact fin _ (by unfold touchB; rw [if_neg n12, if_neg n3, e6]; simp) _ (same_new np)
      · walk_at "rd"
        exact fin false (by unfold touchB; rw [if_neg n12, if_neg n3]; exact decide_eq_false fun z => e6 (decide_eq_true ((eqs_iff fb).mpr z.1))) _ (Same.refl _)
end
end K01
namespace K01
open PySem PySem.Spec PyProof.Rows L2 TK
/-! The plain law: a laid line gives its pieces, or the column of the first strange one. -/
/-- the kinds of pieces that the law draws -/
def isPiece (l : List Nat) : Prop := (l ≠ [] ∧ ∀ c ∈ l, c ∈ letters.cps.toList) ∨ (∃ z ∈ (["<", "<=", "==", "!=", ">=", ">", "(", ")", ",", ";", ":"] : List Str), l = z.cps.toList) ∨ (l ≠ [] ∧ ∀ c ∈ l, c ∈ digits.cps.toList) ∨ (∃ m, l = 45 :: m ∧ m ≠ [] ∧ ∀ c ∈ m, c ∈ digits.cps.toList)
abbrev others : Str := "\"#$&'*+./?@ABCDEFGHIJKLMNOPQRSTUVWXYZ[\\]^_`{|}~"
/-- a strange sign -/
def isStrange (l : List Nat) : Prop := ∃ c ∈ (61 :: 33 :: 45 :: 10 :: others.cps.toList : List Nat), l = [c]
/-- what follows does not run together with it -/
def NT (p : Str) (rest : List Nat) : Prop := ∀ la fb, p.cps.toList.getLast? = some la → rest[0]? = some fb → touchB p "" la fb = false
inductive Lay : List Nat → List Str → List Nat → Prop
  | nil (g : Nat) : Lay (List.replicate g 32) [] []
  | snoc {l ps cs} (h : Lay l ps cs) (p : Str) (g : Nat) (hp : p.cps.toList ≠ []) (k : ∀ a, ps.getLast? = some a → NT a (List.replicate g 32 ++ p.cps.toList)) : Lay (l ++ (List.replicate g 32 ++ p.cps.toList)) (ps ++ [p]) (cs ++ [l.length + g + 1])
theorem touch_b (a b b' : Str) (la fb : Nat) : touchB a b la fb = touchB a b' la fb := rfl
theorem touch_letters {p b : Str} {la fb : Nat} (h : touchB p b la fb = false) (hl : la ∈ letters.cps.toList) : fb ∉ letters.cps.toList := fun hf => by
  unfold touchB at h
  rw [if_pos ⟨hl, hf⟩] at h
  cases h
theorem touch_digits {p b : Str} {la fb : Nat} (h : touchB p b la fb = false) (hl : la ∈ digits.cps.toList ∨ p = "-") : fb ∉ digits.cps.toList := fun hf => by
  unfold touchB at h
  by_cases e : la ∈ letters.cps.toList ∧ fb ∈ letters.cps.toList
  · rw [if_pos e] at h; cases h
  · rw [if_neg e, if_pos ⟨hf, hl⟩] at h; cases h
theorem touch_eq {p b : Str} {la fb : Nat} (h : touchB p b la fb = false) (hp : p ∈ (["<", ">", "!", "="] : List Str)) : fb ≠ 61 := fun hf => by
  subst hf
  unfold touchB at h
  have e1 : (61 : Nat) ∉ letters.cps.toList := by decide +kernel
  have e2 : (61 : Nat) ∉ digits.cps.toList := by decide +kernel
  rw [if_neg fun z => e1 z.2, if_neg fun z => e2 z.1, decide_eq_true ⟨rfl, hp⟩] at h
  cases h
theorem touch_sp {p b : Str} {la : Nat} : touchB p b la 32 = false := by
  unfold touchB
  have e1 : (32 : Nat) ∉ letters.cps.toList := by decide +kernel
  have e2 : (32 : Nat) ∉ digits.cps.toList := by decide +kernel
  rw [if_neg fun z => e1 z.2, if_neg fun z => e2 z.1]
  exact decide_eq_false fun z => absurd z.1 (by decide)
theorem nt_sp {p : Str} {g : Nat} {r : List Nat} (h : 0 < g) : NT p (List.replicate g 32 ++ r) := fun la fb _ e => by
  obtain ⟨n, rfl⟩ : ∃ n, g = n + 1 := ⟨g - 1, by omega⟩
  have e : some 32 = some fb := e
  cases e
  exact touch_sp
theorem nt_app {p : Str} {a b : List Nat} (ha : NT p a) (hb : a = [] → NT p b) : NT p (a ++ b) := by
  cases a with
  | nil => exact hb rfl
  | cons c a => exact fun la fb h1 h2 => ha la fb h1 h2
theorem nt_rep {p : Str} {g : Nat} : NT p (List.replicate g 32) := by
  cases g with
  | zero => exact fun la fb _ e => nomatch e
  | succ n =>
    intro la fb h1 e
    have e : some 32 = some fb := e
    cases e
    exact touch_sp
theorem tw_app {f : Nat → Bool} {b : List Nat} (hb : ∀ fb, b[0]? = some fb → f fb = false) : ∀ {a : List Nat}, (∀ c ∈ a, f c = true) → (a ++ b).takeWhile f = a
  | [], _ => by
    cases b with
    | nil => rfl
    | cons c b => simp [List.takeWhile, hb c rfl]
  | c :: a, h => by
    rw [List.cons_append, List.takeWhile_cons, if_pos (h c (by simp)), tw_app hb fun d hd => h d (by simp [hd])]
theorem run_app {pre a b cs : List Nat} (ha : ∀ c ∈ a, c ∈ cs) (hb : ∀ fb, b[0]? = some fb → fb ∉ cs) : runEnd (pre ++ (a ++ b)) cs pre.length = pre.length + a.length := by
  unfold runEnd
  rw [List.drop_left, tw_app (fun fb e => decide_eq_false (hb fb e)) fun c hc => decide_eq_true (ha c hc)]
theorem last_of {l : List Nat} (h : l ≠ []) : ∃ la, l.getLast? = some la ∧ la ∈ l := ⟨l.getLast h, List.getLast?_eq_some_getLast h, List.getLast_mem h⟩
theorem let_facts : ∀ c ∈ letters.cps.toList, c ≠ 32 := by decide +kernel
theorem dig_facts : ∀ c ∈ digits.cps.toList, c ≠ 32 ∧ c ∉ letters.cps.toList := by decide +kernel
theorem sign_facts : ∀ z ∈ (["<=", "==", "!=", ">="] : List Str), ∃ c d, z.cps.toList = [c, d] ∧ c ≠ 32 ∧ c ∉ letters.cps.toList ∧ c ∉ digits.cps.toList ∧ c ≠ 45 ∧ [c, d] ∈ signs := by
  intro z hz
  simp only [List.mem_cons, List.not_mem_nil, or_false] at hz
  rcases hz with rfl | rfl | rfl | rfl <;> exact ⟨_, _, rfl, by decide +kernel, by decide +kernel, by decide +kernel, by decide +kernel, by decide +kernel⟩
theorem signs_two {c d : Nat} : [c, d] ∈ signs → d = 61 := by
  intro h
  have e : signs = [[60], [60, 61], [61, 61], [33, 61], [62, 61], [62]] := by decide +kernel
  rw [e] at h
  simp at h
  omega
theorem signs_hd {c : Nat} {r : List Nat} : c :: r ∈ signs → c ∈ ([60, 61, 33, 62] : List Nat) := by
  intro h
  have e : signs = [[60], [60, 61], [61, 61], [33, 61], [62, 61], [62]] := by decide +kernel
  rw [e] at h
  simp at h ⊢
  omega
theorem signs_one {c : Nat} : [c] ∈ signs → c = 60 ∨ c = 62 := by
  intro h
  have e : signs = [[60], [60, 61], [61, 61], [33, 61], [62, 61], [62]] := by decide +kernel
  rw [e] at h
  simp at h
  omega
theorem take_two {c : Nat} {r : List Nat} : (c :: r).take 2 = match r[0]? with | none => [c] | some d => [c, d] := by
  cases r <;> rfl
/-- one mark, or a sign that is no beginning of a longer one -/
theorem mark_end {pre rest : List Nat} {c : Nat} (h1 : c ∉ letters.cps.toList) (h2 : c ∉ digits.cps.toList) (h3 : c ≠ 45) (h4 : c ∈ marks.cps.toList) (h5 : c ∈ ([60, 62] : List Nat) → ∀ d, rest[0]? = some d → d ≠ 61) : tokEnd (pre ++ (c :: rest)) pre.length c = pre.length + 1 := by
  unfold tokEnd
  rw [if_neg h1, if_neg h2, if_neg h3, List.drop_left, take_two]
  by_cases e : c ∈ ([60, 62] : List Nat)
  · have q : rest[0]? = none ∨ ∃ d, rest[0]? = some d ∧ d ≠ 61 := by
      cases r : rest[0]? with
      | none => exact .inl rfl
      | some d => exact .inr ⟨d, rfl, h5 e d r⟩
    rcases q with q | ⟨d, q, qd⟩
    · rw [q]
      dsimp only
      split
      · rfl
      · rfl
    · rw [q]
      dsimp only
      rw [if_neg fun z => qd (signs_two z), if_pos h4]
  · have ne : ∀ r, c :: r ∉ signs := fun r z => by
      have z := signs_hd z
      simp only [List.mem_cons, List.not_mem_nil, or_false] at z e h4
      have q : c ∉ ([61, 33] : List Nat) := by
        intro q
        have : ∀ c ∈ ([61, 33] : List Nat), c ∉ marks.cps.toList := by decide +kernel
        exact this c q h4
      simp only [List.mem_cons, List.not_mem_nil, or_false] at q
      omega
    split <;> rw [if_neg (ne _), if_pos h4]
theorem piece_end {pre rest : List Nat} {p : Str} (hp : isPiece p.cps.toList) (hn : NT p rest) : ∃ c t, p.cps.toList = c :: t ∧ c ≠ 32 ∧ tokEnd (pre ++ (p.cps.toList ++ rest)) pre.length c = pre.length + p.cps.toList.length := by
  rcases hp with ⟨h0, h⟩ | ⟨z, hz, h⟩ | ⟨h0, h⟩ | ⟨m, h, h0, hm⟩
  · obtain ⟨la, el, ml⟩ := last_of h0
    obtain ⟨c, t, e⟩ : ∃ c t, p.cps.toList = c :: t := by
      cases q : p.cps.toList with
      | nil => exact (h0 q).elim
      | cons c t => exact ⟨c, t, rfl⟩
    have hc : c ∈ letters.cps.toList := h c (by rw [e]; simp)
    refine ⟨c, t, e, let_facts c hc, ?_⟩
    unfold tokEnd
    rw [if_pos hc]
    exact run_app h fun fb hf => touch_letters (hn la fb el hf) (h la ml)
  · have hz' : z ∈ (["<=", "==", "!=", ">="] : List Str) ∨ z ∈ (["(", ")", ",", ";", ":", "<", ">"] : List Str) := by
      simp only [List.mem_cons, List.not_mem_nil, or_false] at hz ⊢
      rcases hz with rfl | rfl | rfl | rfl | rfl | rfl | rfl | rfl | rfl | rfl | rfl <;> simp
    have ep : p = z := str_ext h
    subst ep
    rcases hz' with hz' | hz'
    · obtain ⟨c, d, e, h1, h2, h3, h4, h5⟩ := sign_facts p hz'
      refine ⟨c, [d], e, h1, ?_⟩
      unfold tokEnd
      rw [if_neg h2, if_neg h3, if_neg h4, List.drop_left, e]
      rw [show ([c, d] ++ rest).take 2 = [c, d] from rfl, if_pos h5]
    · have k : ∃ c, p.cps.toList = [c] ∧ c ≠ 32 ∧ c ∉ letters.cps.toList ∧ c ∉ digits.cps.toList ∧ c ≠ 45 ∧ c ∈ marks.cps.toList ∧ (c ∈ ([60, 62] : List Nat) → p ∈ (["<", ">", "!", "="] : List Str)) := by
        simp only [List.mem_cons, List.not_mem_nil, or_false] at hz'
        rcases hz' with rfl | rfl | rfl | rfl | rfl | rfl | rfl <;> exact ⟨_, rfl, by decide +kernel, by decide +kernel, by decide +kernel, by decide +kernel, by decide +kernel, by decide +kernel⟩
      obtain ⟨c, e, h1, h2, h3, h4, h5, h6⟩ := k
      refine ⟨c, [], e, h1, ?_⟩
      rw [e]
      exact mark_end h2 h3 h4 h5 fun hc d hd => touch_eq (hn c d (by rw [e]; rfl) hd) (h6 hc)
  · obtain ⟨la, el, ml⟩ := last_of h0
    obtain ⟨c, t, e⟩ : ∃ c t, p.cps.toList = c :: t := by
      cases q : p.cps.toList with
      | nil => exact (h0 q).elim
      | cons c t => exact ⟨c, t, rfl⟩
    have hc : c ∈ digits.cps.toList := h c (by rw [e]; simp)
    refine ⟨c, t, e, (dig_facts c hc).1, ?_⟩
    unfold tokEnd
    rw [if_neg (dig_facts c hc).2, if_pos hc]
    exact run_app h fun fb hf => touch_digits (hn la fb el hf) (.inl (h la ml))
  · obtain ⟨la, el, ml⟩ := last_of h0
    have el2 : p.cps.toList.getLast? = some la := by
      rw [h, List.getLast?_cons, el]
      rfl
    refine ⟨45, m, h, by decide, ?_⟩
    unfold tokEnd
    have e1 : (45 : Nat) ∉ letters.cps.toList := by decide +kernel
    have e2 : (45 : Nat) ∉ digits.cps.toList := by decide +kernel
    have r : runEnd (pre ++ (p.cps.toList ++ rest)) digits.cps.toList (pre.length + 1) = pre.length + 1 + m.length := by
      have := run_app (pre := pre ++ [45]) (a := m) (b := rest) (cs := digits.cps.toList) hm fun fb hf => touch_digits (hn la fb el2 hf) (.inl (hm la ml))
      rw [List.length_append] at this
      rw [h, show pre ++ (45 :: m ++ rest) = pre ++ [45] ++ (m ++ rest) by simp]
      exact this
    have hl : 0 < m.length := List.length_pos_iff.mpr h0
    rw [if_neg e1, if_neg e2, if_pos rfl, r, if_pos (by omega), h, List.length_cons]
    omega
theorem strange_end {pre rest : List Nat} {p : Str} (hp : isStrange p.cps.toList) (hn : NT p rest) : ∃ c, p.cps.toList = [c] ∧ c ≠ 32 ∧ tokEnd (pre ++ (p.cps.toList ++ rest)) pre.length c = pre.length := by
  obtain ⟨c, hc, e⟩ := hp
  have f : ∀ c ∈ (61 :: 33 :: 45 :: 10 :: others.cps.toList : List Nat), c ≠ 32 ∧ c ∉ letters.cps.toList ∧ c ∉ digits.cps.toList ∧ c ∉ marks.cps.toList ∧ (c ∈ ([60, 61, 33, 62] : List Nat) → c = 61 ∨ c = 33) := by decide +kernel
  obtain ⟨h1, h2, h3, h4, h5⟩ := f c hc
  refine ⟨c, e, h1, ?_⟩
  unfold tokEnd
  rw [if_neg h2, if_neg h3, e]
  by_cases hd : c = 45
  · have ep : p = "-" := str_ext (by rw [e, hd]; rfl)
    have r : runEnd (pre ++ ([c] ++ rest)) digits.cps.toList (pre.length + 1) = pre.length + 1 := by
      have := run_app (pre := pre ++ [c]) (a := []) (b := rest) (cs := digits.cps.toList) (fun _ z => nomatch z) fun fb hf => touch_digits (hn c fb (by rw [e]; rfl) hf) (.inr ep)
      rw [List.length_append] at this
      rw [show pre ++ ([c] ++ rest) = pre ++ [c] ++ ([] ++ rest) by simp]
      exact this
    rw [if_pos hd, r, if_neg (by omega)]
  · rw [if_neg hd, List.drop_left, show [c] ++ rest = c :: rest from rfl, take_two]
    have ns : (match rest[0]? with | none => [c] | some d => [c, d]) ∉ signs := by
      cases q : rest[0]? with
      | none =>
        intro z
        have z1 := signs_one z
        have z2 := h5 (by simp; omega)
        omega
      | some d =>
        intro z
        have z2 := h5 (signs_hd z)
        have d61 := signs_two z
        have ep : p ∈ (["<", ">", "!", "="] : List Str) := by
          rcases z2 with z2 | z2
          · have : p = "=" := str_ext (by rw [e, z2]; rfl)
            rw [this]; simp
          · have : p = "!" := str_ext (by rw [e, z2]; rfl)
            rw [this]; simp
        exact touch_eq (hn c d (by rw [e]; rfl) q) ep d61
    rw [if_neg ns, if_neg h4]
/-- the pairs of pieces and columns -/
def prs : List Str → List Nat → List (List Nat × Nat)
  | p :: ps, c :: cs => (p.cps.toList, c) :: prs ps cs
  | _, _ => []
theorem Lay.len {l ps cs} (h : Lay l ps cs) : ps.length = cs.length := by
  induction h with
  | nil => rfl
  | snoc h p g hp k ih => rw [List.length_append, List.length_append, ih]; rfl
theorem prs_app : ∀ {ps : List Str} {cs : List Nat} {p : Str} {c : Nat}, ps.length = cs.length → prs (ps ++ [p]) (cs ++ [c]) = prs ps cs ++ [(p.cps.toList, c)]
  | [], [], _, _, _ => rfl
  | p :: ps, c :: cs, q, d, h => by
    show (p.cps.toList, c) :: prs (ps ++ [q]) (cs ++ [d]) = _
    rw [prs_app (by simpa using h)]
    rfl
theorem tot_app (a b : List (List Nat × Nat)) (r : Except Nat (List (List Nat × Nat))) : tot a (tot b r) = tot (a ++ b) r := by
  cases r <;> simp [tot]
theorem toks_sp {rest : List Nat} {n : Nat} : ∀ (g : Nat) {pre : List Nat}, toks (n + g) (pre ++ (List.replicate g 32 ++ rest)) pre.length = toks n (pre ++ (List.replicate g 32 ++ rest)) (pre.length + g)
  | 0, pre => by rfl
  | g + 1, pre => by
    have e : (pre ++ (List.replicate (g + 1) 32 ++ rest))[pre.length]? = some 32 := by
      rw [List.getElem?_append_right (Nat.le_refl _), Nat.sub_self]
      rfl
    rw [show n + (g + 1) = (n + g) + 1 from rfl, toks, e]
    dsimp only
    rw [if_pos rfl]
    have := toks_sp (rest := rest) (n := n) g (pre := pre ++ [32])
    rw [List.length_append] at this
    rw [show pre ++ (List.replicate (g + 1) 32 ++ rest) = pre ++ [32] ++ (List.replicate g 32 ++ rest) by simp [List.replicate_succ]]
    rw [show pre.length + (g + 1) = pre.length + 1 + g by omega]
    exact this
theorem toks_one {pre rest : List Nat} {p : Str} {n : Nat} (hp : isPiece p.cps.toList) (hn : NT p rest) : toks (n + 1) (pre ++ (p.cps.toList ++ rest)) pre.length = tot [(p.cps.toList, pre.length + 1)] (toks n (pre ++ (p.cps.toList ++ rest)) (pre.length + p.cps.toList.length)) := by
  obtain ⟨c, t, e, hc, he⟩ := piece_end (pre := pre) hp hn
  have ec : (pre ++ (p.cps.toList ++ rest))[pre.length]? = some c := by
    rw [List.getElem?_append_right (Nat.le_refl _), Nat.sub_self, e]
    rfl
  rw [toks, ec]
  dsimp only
  rw [if_neg hc, he, if_neg (by rw [e, List.length_cons]; omega), List.drop_left, Nat.add_sub_cancel_left, List.take_left]
  cases toks n (pre ++ (p.cps.toList ++ rest)) (pre.length + p.cps.toList.length) <;> rfl
/-- pieces laid ahead of a rest are read -/
theorem toks_lay {l ps cs} (h : Lay l ps cs) : (∀ p ∈ ps, isPiece p.cps.toList) → ∃ k, k ≤ l.length ∧ ∀ rest N, (∀ a, ps.getLast? = some a → NT a rest) → toks (N + k) (l ++ rest) 0 = tot (prs ps cs) (toks N (l ++ rest) l.length) := by
  induction h with
  | nil g =>
    refine fun _ => ⟨g, by rw [List.length_replicate]; exact Nat.le_refl _, fun rest N _ => ?_⟩
    have := toks_sp (rest := rest) (n := N) g (pre := [])
    rw [List.nil_append, List.length_nil, Nat.zero_add] at this
    rw [this, List.length_replicate]
    show _ = tot [] _
    cases toks N (List.replicate g 32 ++ rest) g <;> rfl
  | @snoc l ps cs h p g hp k ih =>
    intro hall
    obtain ⟨k0, hk0, ihk⟩ := ih fun q hq => hall q (by simp [hq])
    refine ⟨k0 + g + 1, ?_, fun rest N hn => ?_⟩
    · rw [List.length_append, List.length_append, List.length_replicate]
      have : 0 < p.cps.toList.length := List.length_pos_iff.mpr hp
      omega
    have hn := hn p (by simp)
    have hpp : isPiece p.cps.toList := hall p (by simp)
    have e1 : l ++ (List.replicate g 32 ++ p.cps.toList) ++ rest = l ++ (List.replicate g 32 ++ (p.cps.toList ++ rest)) := by simp
    rw [e1, show N + (k0 + g + 1) = N + 1 + g + k0 by omega, ihk _ _ fun a ha => ?_]
    · rw [toks_sp (pre := l) g, show l ++ (List.replicate g 32 ++ (p.cps.toList ++ rest)) = (l ++ List.replicate g 32) ++ (p.cps.toList ++ rest) by simp]
      have := toks_one (pre := l ++ List.replicate g 32) (rest := rest) (n := N) hpp hn
      rw [List.length_append, List.length_replicate] at this
      rw [this, tot_app, ← prs_app h.len, List.length_append, List.length_append, List.length_replicate, show l.length + (g + p.cps.toList.length) = l.length + g + p.cps.toList.length by omega]
    · rw [← List.append_assoc]
      exact nt_app (k a ha) fun z => (hp (List.append_eq_nil_iff.mp z).2).elim
/-- a line of good pieces -/
theorem toks_good {l ps cs} (h : Lay l ps cs) (hall : ∀ p ∈ ps, isPiece p.cps.toList) (g : Nat) : toks ((l ++ List.replicate g 32).length + 1) (l ++ List.replicate g 32) 0 = .ok (prs ps cs) := by
  obtain ⟨k, hk, q⟩ := toks_lay h hall
  rw [List.length_append, List.length_replicate]
  obtain ⟨N, e⟩ : ∃ N, l.length + g + 1 = N + 1 + g + k := ⟨l.length - k, by omega⟩
  rw [e, q _ _ fun a _ => nt_rep]
  have := toks_sp (rest := []) (n := N + 1) g (pre := l)
  rw [List.append_nil] at this
  rw [this, toks]
  have e2 : (l ++ List.replicate g 32)[l.length + g]? = none := List.getElem?_eq_none (by rw [List.length_append, List.length_replicate]; exact Nat.le_refl _)
  rw [e2]
  simp [tot]
/-- what is laid, cut at a piece -/
theorem Lay.cut {l ps cs} (h : Lay l ps cs) : ∀ {ps1 : List Str} {s : Str} {ps2 : List Str}, ps = ps1 ++ s :: ps2 → ∃ l1 g rest cs1 cs2, Lay l1 ps1 cs1 ∧ l = l1 ++ (List.replicate g 32 ++ (s.cps.toList ++ rest)) ∧ s.cps.toList ≠ [] ∧ NT s rest ∧ (∀ a, ps1.getLast? = some a → NT a (List.replicate g 32 ++ s.cps.toList)) ∧ cs = cs1 ++ (l1.length + g + 1) :: cs2 ∧ ps1.length = cs1.length ∧ (rest = [] → ps2 = []) := by
  induction h with
  | nil g => intro ps1 s ps2 e; simp at e
  | @snoc l ps cs h p g hp k ih =>
    intro ps1 s ps2 e
    rcases List.eq_nil_or_concat ps2 with rfl | ⟨ps2', q, rfl⟩
    · obtain ⟨e1, e2⟩ := List.append_inj' (s₁ := ps) (t₁ := [p]) (s₂ := ps1) (t₂ := [s]) e rfl
      subst e1
      cases e2
      exact ⟨l, g, [], cs, [], h, by simp, hp, (fun la fb _ z => nomatch z), k, rfl, h.len, fun _ => rfl⟩
    · have e : ps ++ [p] = (ps1 ++ s :: ps2') ++ [q] := by rw [e]; simp
      obtain ⟨e1, e2⟩ := List.append_inj' e rfl
      cases e2
      obtain ⟨l1, g1, rest, cs1, cs2, h1, h2, h3, h4, h5, h6, h7, h8⟩ := ih e1
      refine ⟨l1, g1, rest ++ (List.replicate g 32 ++ p.cps.toList), cs1, cs2 ++ [l.length + g + 1], h1, by rw [h2]; simp, h3, nt_app h4 fun z => ?_, h5, by rw [h6]; simp, h7, fun z => ?_⟩
      · have := h8 z
        subst this
        exact k s (by rw [e1]; simp)
      · exact (hp (List.append_eq_nil_iff.mp (List.append_eq_nil_iff.mp z).2).2).elim
/-- a line with a strange piece behind good ones -/
theorem toks_strange {l ps1 s ps2 cs} (h : Lay l (ps1 ++ s :: ps2) cs) (hall : ∀ p ∈ ps1, isPiece p.cps.toList) (hs : isStrange s.cps.toList) (g : Nat) : ∃ col, cs[ps1.length]? = some col ∧ toks ((l ++ List.replicate g 32).length + 1) (l ++ List.replicate g 32) 0 = .error col := by
  obtain ⟨l1, g1, rest, cs1, cs2, h1, h2, h3, h4, h5, h6, h7, h8⟩ := h.cut rfl
  refine ⟨l1.length + g1 + 1, by rw [h6, h7, List.getElem?_append_right (Nat.le_refl _), Nat.sub_self]; rfl, ?_⟩
  obtain ⟨k, hk, q⟩ := toks_lay h1 hall
  have h9 : NT s (rest ++ List.replicate g 32) := nt_app h4 fun _ => nt_rep
  have e1 : l ++ List.replicate g 32 = l1 ++ (List.replicate g1 32 ++ (s.cps.toList ++ (rest ++ List.replicate g 32))) := by rw [h2]; simp
  have hl : l1.length + g1 ≤ (l ++ List.replicate g 32).length := by
    rw [e1, List.length_append, List.length_append, List.length_replicate]
    omega
  obtain ⟨N, e⟩ : ∃ N, (l ++ List.replicate g 32).length + 1 = N + 1 + g1 + k := ⟨(l ++ List.replicate g 32).length - g1 - k, by omega⟩
  rw [e, e1, q _ _ fun a ha => ?_]
  · rw [toks_sp (pre := l1) g1, show l1 ++ (List.replicate g1 32 ++ (s.cps.toList ++ (rest ++ List.replicate g 32))) = (l1 ++ List.replicate g1 32) ++ (s.cps.toList ++ (rest ++ List.replicate g 32)) by simp]
    obtain ⟨c, ec, hc, he⟩ := strange_end (pre := l1 ++ List.replicate g1 32) hs h9
    rw [List.length_append, List.length_replicate] at he
    have ex : ((l1 ++ List.replicate g1 32) ++ (s.cps.toList ++ (rest ++ List.replicate g 32)))[l1.length + g1]? = some c := by
      rw [List.getElem?_append_right (by rw [List.length_append, List.length_replicate]; exact Nat.le_refl _), List.length_append, List.length_replicate, Nat.sub_self, ec]
      rfl
    rw [toks, ex]
    dsimp only
    rw [if_neg hc, he, if_pos rfl]
    rfl
  · rw [← List.append_assoc]
    exact nt_app (h5 a ha) fun z => (h3 (List.append_eq_nil_iff.mp z).2).elim
end K01
namespace K01
open PySem PySem.Spec PyProof.Rows L2 TK
theorem num_piece {n : Nat} (h : n < 10 ^ 31) : (Str.ofString (toString (n : Int))).cps.toList ≠ [] ∧ (∀ c ∈ (Str.ofString (toString (n : Int))).cps.toList, c ∈ digits.cps.toList) ∧ (Str.ofString (toString (n : Int))).length ≤ 31 := by
  have e : (Str.ofString (toString (n : Int))).cps.toList = TL.numL n := TL.tl_num n
  refine ⟨by rw [e]; exact TL.numL_ne n, fun c hc => ?_, by rw [len_cps, e]; exact TL.numL_len (by decide) h⟩
  rw [e] at hc
  have r := TL.numL_digits n c hc
  have k : ∀ c, 48 ≤ c → c ≤ 57 → c ∈ digits.cps.toList := fun c h1 h2 => by
    show c ∈ ([48, 49, 50, 51, 52, 53, 54, 55, 56, 57] : List Nat)
    simp
    omega
  exact k c r.1 r.2
theorem log_small {d : Int} (h0 : 0 ≤ d) (h : d < 10 ^ 31) : d.natAbs.log2 < 1920 := by
  by_cases z : d.natAbs = 0
  · rw [z]; decide
  · rw [Nat.log2_lt z]
    have : (10 : Int) ^ 31 ≤ 2 ^ 1920 := by decide +kernel
    have e : ((2 ^ 1920 : Nat) : Int) = 2 ^ 1920 := by norm_cast
    omega
def sp_piece : Sp := fun vs H Q _ => ∃ st : Addr, vs = [.ref st] ∧ StAt H st ∧ ∀ (z : Str) (H' : Hp), Same H H' → isPiece z.cps.toList → z.length ≤ 100 → Q (.str z) H'
section
variable {P : Program} {w : World} {K : PySem.W.Frag} {mg : Str → Option Value} {base : Heap}
theorem ok_law_piece (T : Tx K mg) : FnOk P w K mg base CX0 3 (He.fAd K at_law_piece) (fdOf K at_law_piece) ["state"] sp_piece := by
  have G_law_draw := ok_law_draw (P := P) (w := w) (base := base) T
  have G_law_word := ok_law_word (P := P) (w := w) (base := base) T
  have G_law_pick := ok_law_pick (P := P) (w := w) (base := base) T
  have G_law_reserved := ok_law_reserved (P := P) (w := w) (base := base) T
  refine T.F_law_piece.ok sc_law_piece (fun vs H Q E h => ?_) (fun cdv A outer s H vs Q E hr h => ?_)
  · obtain ⟨_, rfl, _⟩ := h
    rfl
  obtain ⟨st, rfl, hst, k⟩ := h
  refine ⟨_, PSs.nox (pss_cons (ps_set (i := 1) sc_law_piece.nd rfl (by first | exact .inl rfl | exact .inr rfl) (pe_call G_law_draw (hr.mono (by first | decide | omega)) (by rfl) T.m_law_draw T.F_law_draw.kp T.b_law_draw .nil pass0 (pa_cons (pv 0) (pa_cons pe_int pa_nil))))
    (pss_cons (ps_if (pt_cmpR op_eqA (pv 1) pe_int (nomark _))
     (pss_one (ps_ret (pe_call G_law_word (hr.mono (by first | decide | omega)) (by rfl) T.m_law_word T.F_law_word.kp T.b_law_word .nil pass0 (pa_cons (pv 0) (pa_cons (pe_op op_addA pe_int (pe_call G_law_draw (hr.mono (by first | decide | omega)) (by rfl) T.m_law_draw T.F_law_draw.kp T.b_law_draw .nil pass0 (pa_cons (pv 0) (pa_cons pe_int pa_nil)))) pa_nil)))))
     pss_nil)
    (pss_cons (ps_if (pt_cmpR op_eqA (pv 1) pe_int (nomark _))
     (pss_one (ps_ret (pe_call G_law_pick (hr.mono (by first | decide | omega)) (by rfl) T.m_law_pick T.F_law_pick.kp T.b_law_pick .nil pass0 (pa_cons (pv 0) (pa_cons (pe_call0 G_law_reserved (hr.mono (by first | decide | omega)) (by rfl) T.m_law_reserved T.F_law_reserved.kp T.b_law_reserved .nil pass0) pa_nil)))))
     pss_nil)
    (pss_cons (ps_if (pt_cmpR op_eqA (pv 1) pe_int (nomark _))
     (pss_one (ps_ret (pe_call G_law_pick (hr.mono (by first | decide | omega)) (by rfl) T.m_law_pick T.F_law_pick.kp T.b_law_pick .nil pass0 (pa_cons (pv 0) (pa_cons (pe_lst (pa_cons pe_str (pa_cons pe_str (pa_cons pe_str (pa_cons pe_str (pa_cons pe_str (pa_cons pe_str (pa_cons pe_str (pa_cons pe_str (pa_cons pe_str (pa_cons pe_str (pa_cons pe_str pa_nil)))))))))))) pa_nil)))))
     pss_nil)
    (pss_cons (ps_set (i := 2) sc_law_piece.nd rfl (by first | exact .inl rfl | exact .inr rfl) (pe_op op_addA (pe_op op_mul_str pe_str (pe_call G_law_draw (hr.mono (by first | decide | omega)) (by rfl) T.m_law_draw T.F_law_draw.kp T.b_law_draw .nil pass0 (pa_cons (pv 0) (pa_cons pe_int pa_nil)))) (pe_callTy call_str_int (by rfl) T.z_str (by decide +kernel) (pa_cons (pe_call G_law_draw (hr.mono (by first | decide | omega)) (by rfl) T.m_law_draw T.F_law_draw.kp T.b_law_draw .nil pass0 (pa_cons (pv 0) (pa_cons (pe_op op_pow pe_int pe_int) pa_nil))) pa_nil))))
    (pss_cons (ps_if (pt_cmpR op_eqA (pv 1) pe_int (nomark _))
     (pss_one (ps_ret (pv 2)))
     pss_nil)
    (pss_one (ps_ret (pe_op op_addA pe_str (pv 2)))))))))), ?_⟩
  dsimp only [cxOf, Cx.nox, Cx.wish, L2.start, List.map, List.length, List.replicate, List.append]
  walk_at "rd"
  intro kind H1 s1 _ _
  have hst := hst.mono s1
  walk_at "rd"
  refine ite2 (fun e => ?_) (fun e => ?_)
  · walk_at "rd"
    intro d H2 s2 d0 d1
    have hst := hst.mono s2
    walk_at "rd"
    refine ⟨st, (1 + d).toNat, by rw [Int.toNat_of_nonneg (by omega)] <;> rfl, hst, by omega, fun x H3 s3 hx hc => ?_⟩
    walk_at "rd"
    refine k x H3 ((s1.trans s2).trans s3) (.inl ⟨fun z => ?_, hc⟩) (by omega)
    have : x.length = 0 := by rw [len_cps, z]; rfl
    omega
  walk_at "rd"
  refine ite2 (fun e => ?_) (fun e => ?_)
  · walk_at "rd"
    intro p H2 s2 hp
    have hst := hst.mono s2
    refine ⟨st, .ref p, rfl, hst, .inr ⟨p, _, rfl, hp, by decide, Nat.le_of_ble_eq_true rfl, fun v H3 s3 mv => ?_⟩⟩
    obtain ⟨z, hz, rfl⟩ := List.mem_map.mp mv
    have key : ∀ z ∈ reserved, z.length ≤ 100 ∧ z.cps.toList ≠ [] ∧ ∀ c ∈ z.cps.toList, c ∈ letters.cps.toList := by decide +kernel
    obtain ⟨k1, k2, k3⟩ := key z hz
    walk_at "rd"
    exact k z H3 ((s1.trans s2).trans s3) (.inl ⟨k2, k3⟩) k1
  walk_at "rd"
  refine ite2 (fun e => ?_) (fun e => ?_)
  · walk_at "rd"
    intro p np
    refine ⟨st, .ref p, rfl, hst.mono (same_new np), .inr ⟨p, _, rfl, upd_same, by decide, Nat.le_of_ble_eq_true rfl, fun v H3 s3 mv => ?_⟩⟩
    have mv : v ∈ (["<", "<=", "==", "!=", ">=", ">", "(", ")", ",", ";", ":"] : List Str).map V.str := mv
    obtain ⟨z, hz, rfl⟩ := List.mem_map.mp mv
    walk_at "rd"
    have key : ∀ z ∈ (["<", "<=", "==", "!=", ">=", ">", "(", ")", ",", ";", ":"] : List Str), z.length ≤ 100 := by decide +kernel
    exact k z H3 ((s1.trans (same_new np)).trans s3) (.inr (.inl ⟨z, hz, rfl⟩)) (key z hz)
  walk_at "rd"
  intro d H2 s2 d0 d1
  have hst := hst.mono s2
  obtain ⟨n, rfl⟩ : ∃ n : Nat, d = n := ⟨d.toNat, by omega⟩
  refine ⟨"0", n, rfl, rfl, by decide, by omega, fun r er => ?_⟩
  walk_at "rd"
  refine ⟨lt_big40 (show (10 : Int) ^ 31 < 10 ^ 40 by decide +kernel), fun m H3 s3 m0 m1 => ?_⟩
  obtain ⟨m, rfl⟩ : ∃ n : Nat, m = n := ⟨m.toNat, by omega⟩
  have m1 : (m : Int) < 10 ^ 31 := m1
  have m2 : m < 10 ^ 31 := by
    have e : ((10 ^ 31 : Nat) : Int) = 10 ^ 31 := by norm_cast
    omega
  obtain ⟨q1, q2, q3⟩ := num_piece m2
  refine ⟨(m : Int), rfl, log_small m0 m1, ?_⟩
  have er : r.cps.toList = List.replicate n 48 := by
    rw [er, show ("0" : Str).cps.toList = [48] from rfl]
    simp [List.flatten_replicate_singleton]
  have rl : r.length ≤ 3 := by rw [len_cps, er, List.length_replicate]; omega
  have zz : r.length + (Str.ofString (toString (m : Int))).length ≤ sizeLine := app_len rl q3 (by decide)
  have dg : ∀ c ∈ (r ++ Str.ofString (toString (m : Int))).cps.toList, c ∈ digits.cps.toList := fun c hc => by
    rw [cps_app] at hc
    rcases List.mem_append.mp hc with hc | hc
    · rw [er] at hc
      rw [(List.mem_replicate.mp hc).2]
      decide +kernel
    · exact q2 c hc
  have ne : (r ++ Str.ofString (toString (m : Int))).cps.toList ≠ [] := fun z => by
    rw [cps_app] at z
    exact q1 (List.append_eq_nil_iff.mp z).2
  have ln : (r ++ Str.ofString (toString (m : Int))).length ≤ 34 := by rw [len_app]; omega
  have sm := (s1.trans s2).trans s3
  walk_at "rd"
  refine ite2 (fun e => ?_) (fun e => ?_)
  · walk_at "rd"
    exact k _ H3 sm (.inr (.inr (.inl ⟨ne, dg⟩))) (by omega)
  · have zz : ("-" : Str).length + (r ++ Str.ofString (toString (m : Int))).length ≤ sizeLine := app_len (n := 1) (by decide) ln (by decide)
    walk_at "rd"
    refine k _ H3 sm (.inr (.inr (.inr ⟨_, by rw [cps_app]; rfl, ne, dg⟩))) ?_
    rw [len_app]
    show 1 + _ ≤ _
    omega
end
end K01
namespace K01
open PySem PySem.Spec PyProof.Rows L2 TK
def sp_laid (K : PySem.W.Frag) : Sp := fun vs H Q _ => ∃ (st q : Addr) (xs : List Str), vs = [.ref st, .ref q] ∧ StAt H st ∧ SqL K H q (xs.map V.str) ∧ xs.length ≤ 1000 ∧ (∀ x ∈ xs, x.cps.toList ≠ [] ∧ x.length ≤ 100) ∧
  ∀ (t c : Addr) (z : Str) (cs : List Nat) (l : List Nat) (g : Nat) (H' : Hp), Same H H' → H' t = some (.tup [.str z, .ref c]) → H' c = some (.lst (cs.map fun n : Nat => V.int (n : Int))) → Lay l xs cs → z.cps.toList = l ++ List.replicate g 32 → z.length ≤ 1000000 → Q (.ref t) H'
theorem flat_rep (g : Nat) : (List.replicate g (" " : Str).cps.toList).flatten = List.replicate g 32 := by
  rw [show (" " : Str).cps.toList = [32] from rfl]
  simp [List.flatten_replicate_singleton]
theorem rep_len {r : Str} {g : Nat} (h : r.cps.toList = (List.replicate g (" " : Str).cps.toList).flatten) : r.length = g := by
  rw [len_cps, h, flat_rep, List.length_replicate]
section
variable {P : Program} {w : World} {K : PySem.W.Frag} {mg : Str → Option Value} {base : Heap}
theorem ok_law_laid (T : Tx K mg) : FnOk P w K mg base CX0 2 (He.fAd K at_law_laid) (fdOf K at_law_laid) ["state", "pieces"] (sp_laid K) := by
  have G_law_draw := ok_law_draw (P := P) (w := w) (base := base) T
  have G_law_touch := ok_law_touch (P := P) (w := w) (base := base) T
  refine T.F_law_laid.ok sc_law_laid (fun vs H Q E h => ?_) (fun cdv A outer s H vs Q E hr h => ?_)
  · obtain ⟨_, _, _, rfl, _⟩ := h
    rfl
  obtain ⟨st, q, xs, rfl, hst, hS, hl, hx, k⟩ := h
  refine ⟨_, PSs.nox (pss_cons (ps_set (i := 2) sc_law_laid.nd rfl (by first | exact .inl rfl | exact .inr rfl) (pe_op op_mul_str pe_str (pe_call G_law_draw (hr.mono (by first | decide | omega)) (by rfl) T.m_law_draw T.F_law_draw.kp T.b_law_draw .nil pass0 (pa_cons (pv 0) (pa_cons pe_int pa_nil)))))
    (pss_cons (ps_set (i := 3) sc_law_laid.nd rfl (by first | exact .inl rfl | exact .inr rfl) (pe_lst pa_nil))
    (pss_cons (ps_set (i := 4) sc_law_laid.nd rfl (by first | exact .inl rfl | exact .inr rfl) pe_int)
    (pss_cons (ps_for PassesOwn.never rfl (pi_range1 rfl T.z_range (pa_cons (pe_callB call_lenA (by rfl) T.z_len PySem.boot_len (pa_cons (pv 1) pa_nil)) pa_nil)) (pg_name (i := 5) sc_law_laid.nd rfl (by first | exact .inl rfl | exact .inr rfl))
     (pss_cutT (ps_if (pt_cmpR op_eqA (pe_op op_mod (pv 5) pe_int) pe_int (nomark _))
      (pss_one (ps_set (i := 4) sc_law_laid.nd rfl (by first | exact .inl rfl | exact .inr rfl) (pe_call G_law_draw (hr.mono (by first | decide | omega)) (by rfl) T.m_law_draw T.F_law_draw.kp T.b_law_draw .nil pass0 (pa_cons (pv 0) (pa_cons pe_int pa_nil)))))
      pss_nil)
     (pss_cons (ps_set (i := 6) sc_law_laid.nd rfl (by first | exact .inl rfl | exact .inr rfl) (pe_op op_mod (pe_callTy call_int1 (by rfl) T.z_int (by decide +kernel) (pa_cons (pv 4) pa_nil)) pe_int))
     (pss_cons (ps_set (i := 4) sc_law_laid.nd rfl (by first | exact .inl rfl | exact .inr rfl) (pe_op op_fdivW (pe_callTy call_int1 (by rfl) T.z_int (by decide +kernel) (pa_cons (pv 4) pa_nil)) pe_int))
     (pss_cutT (ps_if (PW.pt (pw_and (pt_cmpR op_eqA (pv 6) pe_int (nomark _)) (pw_and (pt_cmpR op_gt (pv 5) pe_int (nomark _)) (pw_and1 (pt_val (pe_call G_law_touch (hr.mono (by first | decide | omega)) (by rfl) T.m_law_touch T.F_law_touch.kp T.b_law_touch .nil pass0 (pa_cons (pe_ix ix_A (pv 1) (pe_op op_sub (pv 5) pe_int) (fun _ _ => rfl)) (pa_cons (pe_ix ix_A (pv 1) (pv 5) (fun _ _ => rfl)) pa_nil))))))))
      (pss_one (ps_set (i := 6) sc_law_laid.nd rfl (by first | exact .inl rfl | exact .inr rfl) pe_int))
      pss_nil)
     (pss_cons (ps_set (i := 2) sc_law_laid.nd rfl (by first | exact .inl rfl | exact .inr rfl) (pe_op op_addA (pv 2) (pe_op op_mul_str pe_str (pv 6))))
     (pss_cons (ps_expr (pe_bm PySem.F.plainAttrs_list PySem.F.slot_list_append PySem.F.type_list_append mt_append (pv 3) (pa_cons (pe_op op_addA (pe_callB call_lenA (by rfl) T.z_len PySem.boot_len (pa_cons (pv 2) pa_nil)) pe_int) pa_nil)))
     (pss_one (ps_set (i := 2) sc_law_laid.nd rfl (by first | exact .inl rfl | exact .inr rfl) (pe_op op_addA (pv 2) (pe_ix ix_A (pv 1) (pv 5) (fun _ _ => rfl))))))))))))
    (pss_one (ps_ret (pe_tup (pa_cons (pe_op op_addA (pv 2) (pe_op op_mul_str pe_str (pe_call G_law_draw (hr.mono (by first | decide | omega)) (by rfl) T.m_law_draw T.F_law_draw.kp T.b_law_draw .nil pass0 (pa_cons (pv 0) (pa_cons pe_int pa_nil))))) (pa_cons (pv 3) pa_nil))))))))), ?_⟩
  dsimp only [cxOf, Cx.nox, Cx.wish, L2.start, List.map, List.length, List.replicate, List.append]
  have hst0 := hst
  have hS0 := hS
  walk_at "rd"
  intro d H1 s1 d0 d1
  obtain ⟨g, rfl⟩ : ∃ n : Nat, d = n := ⟨d.toNat, by omega⟩
  have hst := hst.mono s1
  refine ⟨" ", g, rfl, rfl, by decide, by omega, fun r er => ?_⟩
  walk_at "rd"
  intro c nc
  have sm : Same H (upd H1 c (.lst [])) := s1.trans (same_new nc)
  have hS1 := sm.seq hS
  have hc0 : H c = none := s1.free nc
  have hml : (xs.map V.str).length = xs.length := List.length_map _
  have hl' : (xs.map V.str).length ≤ 1000 := by omega
  have hr0 : r.length = g := rep_len er
  walk_at "r1"
  refine .inr ⟨q, _, rfl, .inl hS1, ?_⟩
  rw [hml]
  refine ⟨_, rfl, by omega, by omega, ?_⟩
  refine for_range (fun i σ H' => Here (∃ (z : Str) (cs : List Nat) (code : Int) (o o' : Option V), σ = [some (.ref st), some (.ref q), some (.str z), some (.ref c), some (.int code), o, o'] ∧ Same H H' ∧ H' c = some (.lst (cs.map fun n : Nat => V.int (n : Int))) ∧ Lay z.cps.toList (xs.take i) cs ∧ z.length ≤ 2 + 103 * i))
    (.mk ⟨r, [], 0, none, none, rfl, sm, upd_same, by rw [er, flat_rep]; exact .nil g, by omega⟩) (fun i σ H' hi y => ?_) (fun σ H' y => ?_)
  · obtain ⟨z, cs, code, o, o', rfl, s2, hc, hz, zl⟩ := y.out
    have hst := hst0.mono s2
    have hS := s2.seq hS0
    have hi' : i < xs.length := by omega
    have x1 : atI (xs.map V.str) ((0 : Int) + (i : Nat)) = some (.str xs[i]) := by rw [Int.zero_add]; exact atI_nat (by rw [List.getElem?_map, List.getElem?_eq_getElem hi']; rfl)
    refine ⟨fun σ H' => Here (∃ (code : Int), σ = [some (.ref st), some (.ref q), some (.str z), some (.ref c), some (.int code), some (.int (0 + (i : Nat))), o'] ∧ Same H H' ∧ H' c = some (.lst (cs.map fun n : Nat => V.int (n : Int)))), ?_, fun σ H' z1 => ?_⟩
    · walk_at "rd"
      refine ite2 (fun e => ?_) (fun e => ?_)
      · walk_at "rd"
        intro d H2 s3 _ _
        walk_at "rd"
        exact .mk ⟨d, rfl, s2.trans s3, s3 _ _ hc⟩
      · walk_at "rd"
        exact .mk ⟨code, rfl, s2, hc⟩
    obtain ⟨code, rfl, s3, hc⟩ := z1.out
    have hS := s3.seq hS0
    have hst := hst0.mono s3
    walk_at "rd"
    have xm : xs[i] ∈ xs := List.getElem_mem hi'
    obtain ⟨xne, xl⟩ := hx _ xm
    have sg : ∀ {v : Int} {n : Nat}, v = n → [some (V.ref st), some (.ref q), some (.str z), some (.ref c), some (.int (code / 3)), some (.int (0 + (i : Nat))), some (V.int v)] = [some (.ref st), some (.ref q), some (.str z), some (.ref c), some (.int (code / 3)), some (.int (0 + (i : Nat))), some (V.int n)] := fun e => by rw [e]
    have c0 : 0 ≤ code % 3 := Int.emod_nonneg _ (by decide)
    have c3 : code % 3 < 3 := Int.emod_lt_of_pos _ (by decide)
    refine ⟨fun σ H' => Here (∃ (gp : Nat), σ = [some (.ref st), some (.ref q), some (.str z), some (.ref c), some (.int (code / 3)), some (.int (0 + (i : Nat))), some (.int gp)] ∧ Same H H' ∧ H' c = some (.lst (cs.map fun n : Nat => V.int (n : Int))) ∧ gp ≤ 2 ∧
      (∀ a, (xs.take i).getLast? = some a → NT a (List.replicate gp 32 ++ xs[i].cps.toList))), ?_, fun σ H' z2 => ?_⟩
    · walk_at "rd"
      by_cases e1 : V.int (code % 3) = V.int 0
      · have e1' : code % 3 = 0 := V.int.inj e1
        rw [decide_eq_true e1]
        walk_at "rd"
        by_cases e2 : 0 < (0 + (i : Nat) : Int)
        · rw [decide_eq_true e2]
          have hi1 : i - 1 < xs.length := by omega
          have x2 : atI (xs.map V.str) ((0 : Int) + (i : Nat) - 1) = some (.str xs[i - 1]) := by
            rw [show (0 : Int) + (i : Nat) - 1 = ((i - 1 : Nat) : Int) by omega]
            exact atI_nat (by rw [List.getElem?_map, List.getElem?_eq_getElem hi1]; rfl)
          obtain ⟨yne, yl⟩ := hx _ (List.getElem_mem hi1)
          obtain ⟨la, hla, _⟩ := last_of yne
          obtain ⟨fb, hfb⟩ : ∃ fb, xs[i].cps.toList[0]? = some fb := ⟨_, List.getElem?_eq_getElem (List.length_pos_iff.mpr xne)⟩
          have tk : (xs.take i).getLast? = some xs[i - 1] := by
            rw [List.getLast?_take, if_neg (by omega), List.getElem?_eq_getElem hi1]
            rfl
          walk_at "rd"
          refine ⟨xs[i - 1], xs[i], la, fb, rfl, line_le yl (by decide), line_le xl (by decide), hla, hfb, fun H2 s4 => ?_⟩
          walk_at "rd"
          refine ite2 (fun e3 => ?_) (fun e3 => ?_)
          · walk_at "rd"
            exact .mk ⟨1, rfl, s3.trans s4, s4 _ _ hc, by decide, fun a _ => nt_sp (by decide)⟩
          · walk_at "rd"
            refine .mk ⟨0, sg e1', s3.trans s4, s4 _ _ hc, by decide, fun a ha la' fb' h1 h2 => ?_⟩
            rw [tk] at ha
            cases ha
            rw [hla] at h1
            cases h1
            have h2 : xs[i].cps.toList[0]? = some fb' := h2
            rw [hfb] at h2
            cases h2
            exact Bool.eq_false_iff.mpr e3
        · rw [decide_eq_false e2]
          walk_at "rd"
          have i0 : i = 0 := by omega
          refine .mk ⟨0, sg e1', s3, hc, by decide, fun a ha => ?_⟩
          rw [i0] at ha
          cases ha
      · rw [decide_eq_false e1]
        walk_at "rd"
        have : code % 3 ≠ 0 := fun e => e1 (by rw [e])
        exact .mk ⟨(code % 3).toNat, sg (Int.toNat_of_nonneg c0).symm, s3, hc, by omega, fun a _ => nt_sp (by omega)⟩
    obtain ⟨gp, rfl, s4, hc, hgp, hnt⟩ := z2.out
    have hS := s4.seq hS0
    have hst := hst0.mono s4
    have zl2 : z.length ≤ 200000 := by omega
    walk_at "rd"
    intro r2 er2
    have r2l : r2.length = gp := rep_len er2
    have zz1 : z.length + r2.length ≤ sizeLine := app_len zl2 (show r2.length ≤ 2 by omega) (by decide)
    walk_at "rd"
    have l3 : (z ++ r2).length ≤ 200010 := by rw [len_app]; omega
    have l4 : (z ++ r2).length ≤ sizeLine := line_le l3 (by decide)
    walk_at "rd"
    refine ⟨.inl ⟨rfl, _, SqL.of hc⟩, ?_⟩
    walk_at "rd"
    have hcl : cs.length = i := by rw [← hz.len, List.length_take]; omega
    refine ⟨c, _, _, rfl, rfl, hc, by rw [List.length_map, hcl, sizeLine_eq]; omega, ?_⟩
    have s5 : Same H (upd H' c (.lst (cs.map (fun n : Nat => V.int (n : Int)) ++ [.int ((z ++ r2).length + 1)]))) := fun b u e => by rw [upd_ne (ne_of_none e hc0)]; exact s4 _ _ e
    have hS := s5.seq hS0
    have zz2 : (z ++ r2).length + xs[i].length ≤ sizeLine := app_len l3 xl (by decide)
    walk_at "rd"
    refine .mk ⟨(z ++ r2) ++ xs[i], cs ++ [z.cps.toList.length + gp + 1], code / 3, _, _, rfl, s5, ?_, ?_, ?_⟩
    · rw [upd_same, List.map_append, len_app, r2l, len_cps z]
      rfl
    · rw [cps_app, cps_app, er2, flat_rep, List.append_assoc, ← List.take_append_getElem hi']
      exact hz.snoc xs[i] gp xne hnt
    · rw [len_app, len_app, r2l]
      omega
  · obtain ⟨z, cs, code, o, o', rfl, s2, hc, hz, zl⟩ := y.out
    have hst := hst0.mono s2
    have et : xs.take (xs.length : Int).toNat = xs := List.take_of_length_le (by omega)
    rw [et] at hz
    walk_at "rd"
    intro d H2 s3 d0 d1
    obtain ⟨g2, rfl⟩ : ∃ n : Nat, d = n := ⟨d.toNat, by omega⟩
    have zl2 : z.length ≤ 200000 := by omega
    refine ⟨" ", g2, rfl, rfl, by decide, by omega, fun r2 er2 => ?_⟩
    have r2l : r2.length = g2 := rep_len er2
    have zz1 : z.length + r2.length ≤ sizeLine := app_len zl2 (show r2.length ≤ 2 by omega) (by decide)
    walk_at "rd"
    intro t nt
    have hc := s3 _ _ hc
    exact k t c (z ++ r2) cs z.cps.toList g2 _ ((s2.trans s3).trans (same_new nt)) upd_same (by rw [upd_ne (ne_of_none hc nt)]; exact hc) hz (by rw [cps_app, er2, flat_rep]) (by rw [len_app]; omega)
end
end K01
namespace K01
open PySem PySem.Spec PyProof.Rows L2 TK
def sp_law (K : PySem.W.Frag) : Sp := fun vs H Q _ => ∃ (a : Addr) (ns : List Int), vs = [.ref a] ∧ SqL K H a (ns.map V.int) ∧ ns.length ≤ 63 ∧ ∀ H', Q (.bl true) H'
theorem law_pre (K : PySem.W.Frag) (H : Hp) (a : Addr) (ns : List Int) (hl : ns.length ≤ 63) (_ : Only H) (hS : SqL K H a (ns.map V.int)) : sp_law K [.ref a] H (fun v _ => v = .bl true) fun _ _ _ => False := ⟨a, ns, rfl, hS, hl, fun _ => rfl⟩
theorem strs_of {p : Str → Prop} : ∀ {vs : List V}, (∀ v ∈ vs, ∃ x, v = .str x ∧ p x) → ∃ xs : List Str, vs = xs.map V.str ∧ ∀ x ∈ xs, p x
  | [], _ => ⟨[], rfl, fun _ h => nomatch h⟩
  | v :: vs, h => by
    obtain ⟨x, rfl, px⟩ := h v (by simp)
    obtain ⟨xs, rfl, hx⟩ := strs_of (vs := vs) fun w hw => h w (by simp [hw])
    exact ⟨x :: xs, rfl, fun y hy => by
      rcases List.mem_cons.mp hy with rfl | hy
      · exact px
      · exact hx y hy⟩
abbrev eleven : List Str := ["<", "<=", "==", "!=", ">=", ">", "(", ")", ",", ";", ":"]
theorem piece_ne {l : List Nat} (h : isPiece l) : l ≠ [] := by
  rcases h with ⟨h, _⟩ | ⟨z, hz, rfl⟩ | ⟨h, _⟩ | ⟨m, rfl, _⟩
  · exact h
  · have k : ∀ z ∈ eleven, z.cps.toList ≠ [] := by decide +kernel
    exact k z hz
  · exact h
  · simp
def dTok (t : List Nat × Nat) : D := .tup [.str ⟨t.1.toArray⟩, .int t.2]
theorem TokAt.is {H : Hp} {v : V} {t : List Nat × Nat} (h : TokAt H v t) : Is H v (dTok t) := by
  obtain ⟨a, z, rfl, h1, h2, h3⟩ := h
  have e : z = ⟨t.1.toArray⟩ := str_ext (by rw [h2])
  rw [e] at h1 h3
  exact .tup h1 (Nat.le_of_ble_eq_true rfl) (.cons (.str _ h3) (.cons (.int _) .nil))
theorem ToksAt.is {H : Hp} {vs : List V} {ts : List (List Nat × Nat)} (h : ToksAt H vs ts) : AllI (Is H) vs (ts.map dTok) := by
  induction h with
  | nil => exact .nil
  | snoc h k ih => rw [List.map_append]; exact ih.app (.one k.is)
theorem fits_toks (ts : List (List Nat × Nat)) : Fits 4 (.tup [.str "let", .lst (ts.map dTok)]) := by
  intro d hd
  rcases List.mem_cons.mp hd with rfl | hd
  · trivial
  · cases List.mem_singleton.mp hd
    intro d hd
    obtain ⟨t, _, rfl⟩ := List.mem_map.mp hd
    intro e he
    rcases List.mem_cons.mp he with rfl | he
    · trivial
    · cases List.mem_singleton.mp he
      trivial
theorem len_prs : ∀ {ps : List Str} {cs : List Nat}, ps.length = cs.length → (prs ps cs).length = ps.length
  | [], [], _ => rfl
  | p :: ps, c :: cs, h => by
    show (prs ps cs).length + 1 = ps.length + 1
    rw [len_prs (by simpa using h)]
theorem prs_get : ∀ {ps : List Str} {cs : List Nat} {i : Nat} {p : Str} {c : Nat}, ps[i]? = some p → cs[i]? = some c → (prs ps cs)[i]? = some (p.cps.toList, c)
  | p :: ps, c :: cs, 0, _, _, h1, h2 => by
    cases h1
    cases h2
    rfl
  | p :: ps, c :: cs, i + 1, _, _, h1, h2 => prs_get (ps := ps) (cs := cs) (i := i) h1 h2
theorem _root_.List.getElem_of_eq_some {α : Type} {l : List α} {i : Nat} {x : α} (h : l[i]? = some x) {hi : i < l.length} : l[i] = x := by
  rw [List.getElem?_eq_getElem hi] at h
  exact Option.some.inj h
theorem take_mid {xs : List Str} {sx : Str} {sp k : Nat} (h : sp ≤ xs.length) : (xs.take sp ++ sx :: xs.drop sp).take (sp + 1 + k) = xs.take sp ++ sx :: (xs.drop sp).take k := by
  rw [List.take_append, List.length_take, Nat.min_eq_left h, List.take_of_length_le (by rw [List.length_take]; omega), show sp + 1 + k - sp = k + 1 by omega, List.take_succ_cons]
theorem drop_mid {xs : List Str} {sx : Str} {sp k : Nat} (h : sp ≤ xs.length) : (xs.take sp ++ sx :: xs.drop sp).drop (sp + 1 + k) = (xs.drop sp).drop k := by
  rw [List.drop_append, List.length_take, Nat.min_eq_left h, List.drop_of_length_le (by rw [List.length_take]; omega), show sp + 1 + k - sp = k + 1 by omega, List.drop_succ_cons, List.nil_append]
theorem toks_blank (g : Nat) (z : Str) (h : z.cps.toList = List.replicate g 32) : toks (z.length + 1) z.cps.toList 0 = .ok [] := by
  have := toks_good (Lay.nil g) (fun _ h => nomatch h) 0
  rw [List.replicate_zero, List.append_nil, ← h, ← len_cps] at this
  exact this
section
variable {w : World} {K : PySem.W.Frag} {mg : Str → Option Value} {base : Heap}
theorem ok_law (T : Tx K mg) : FnOk PP w K mg base CX0 7 (He.fAd K at_law) (fdOf K at_law) ["script"] (sp_law K) := by
  have G_law_state := ok_law_state (P := PP) (w := w) (base := base) T
  have G_law_draw := ok_law_draw (P := PP) (w := w) (base := base) T
  have G_law_pick := ok_law_pick (P := PP) (w := w) (base := base) T
  have G_law_piece := ok_law_piece (P := PP) (w := w) (base := base) T
  have G_law_mixed := ok_law_mixed (P := PP) (w := w) (base := base) T
  have G_law_laid := ok_law_laid (P := PP) (w := w) (base := base) T
  have G_law_split := ok_law_split (w := w) (base := base) T
  have G_law_same := ok_law_same (P := PP) (w := w) (base := base) T 4
  refine T.F_law.ok sc_law (fun vs H Q E h => ?_) (fun cdv A outer s H vs Q E hr h => ?_)
  · obtain ⟨_, _, rfl, _⟩ := h
    rfl
  obtain ⟨a, ns, rfl, hS, hl, k⟩ := h
  refine ⟨_, PSs.nox (pss_cons (ps_set (i := 1) sc_law.nd rfl (by first | exact .inl rfl | exact .inr rfl) (pe_call G_law_state (hr.mono (by first | decide | omega)) (by rfl) T.m_law_state T.F_law_state.kp T.b_law_state .nil pass0 (pa_cons (pv 0) pa_nil)))
    (pss_cons (ps_set (i := 2) sc_law.nd rfl (by first | exact .inl rfl | exact .inr rfl) pe_str)
    (pss_cons (ps_set (i := 4) sc_law.nd rfl (by first | exact .inl rfl | exact .inr rfl) (pe_lc (own := [("k", 3)]) rfl sc_law.nd (pi_range1 rfl T.z_range (pa_cons (pe_op op_sub pe_int (pe_call G_law_draw (hr.mono (by first | decide | omega)) (by rfl) T.m_law_draw T.F_law_draw.kp T.b_law_draw .nil pass0 (pa_cons (pv 1) (pa_cons pe_int pa_nil)))) pa_nil)) (blkOk_by (N := ["script", "state", "others", "k", "pieces", "line", "columns", "due", "told", "strange", "spot", "spoiled", "at"]) (sc := defScope s_law) (by decide +kernel)) (fun _ _ _ _ _ => (pg_name (i := 3) sc_law.nd rfl (by first | exact .inl rfl | exact .inr rfl))) (fun _ _ _ _ _ => pts_nil) (fun _ _ _ _ _ => (pe_call G_law_piece (hr.mono (by first | decide | omega)) (by rfl) T.m_law_piece T.F_law_piece.kp T.b_law_piece .nil pass0 (pa_cons (pv 1) pa_nil)))))
    (pss_cons (ps_set (i := 4) sc_law.nd rfl (by first | exact .inl rfl | exact .inr rfl) (pe_call G_law_mixed (hr.mono (by first | decide | omega)) (by rfl) T.m_law_mixed T.F_law_mixed.kp T.b_law_mixed .nil pass0 (pa_cons (pv 1) (pa_cons (pe_op op_addA (pv 4) (pe_lst (pa_cons pe_str (pa_cons pe_str (pa_cons pe_str (pa_cons pe_str (pa_cons pe_str (pa_cons pe_str (pa_cons pe_str (pa_cons pe_str (pa_cons pe_str (pa_cons pe_str (pa_cons pe_str pa_nil))))))))))))) pa_nil))))
    (pss_cons (ps_asg (pe_call G_law_laid (hr.mono (by first | decide | omega)) (by rfl) T.m_law_laid T.F_law_laid.kp T.b_law_laid .nil pass0 (pa_cons (pv 1) (pa_cons (pv 4) pa_nil))) (pg_tup (by rfl) (pgs_cons (pg_name (i := 5) sc_law.nd rfl (by first | exact .inl rfl | exact .inr rfl)) (pgs_cons (pg_name (i := 6) sc_law.nd rfl (by first | exact .inl rfl | exact .inr rfl)) pgs_nil))))
    (pss_cons (ps_setLc (i := 7) (own := [("k", 3)]) rfl sc_law.nd rfl rfl (sw_true rfl rfl rfl (by decide +kernel)) (pi_range1 rfl T.z_range (pa_cons (pe_callB call_lenA (by rfl) T.z_len PySem.boot_len (pa_cons (pv 4) pa_nil)) pa_nil)) (blkOk_by (N := ["script", "state", "others", "k", "pieces", "line", "columns", "due", "told", "strange", "spot", "spoiled", "at"]) (sc := defScope s_law) (by decide +kernel)) (fun _ _ _ _ _ => (pg_name (i := 3) sc_law.nd rfl (by first | exact .inl rfl | exact .inr rfl))) (fun _ _ _ _ _ => pts_nil) (fun _ _ _ _ _ => (pe_tup (pa_cons (pe_ix (ix_K (K := K)) (pv 4) (pv 3) (fun _ _ => rfl)) (pa_cons (pe_ix (ix_K (K := K)) (pv 6) (pv 3) (fun _ _ => rfl)) pa_nil)))))
    (pss_cutT (ps_for PassesOwn.never rfl (pi_range1 rfl T.z_range (pa_cons pe_int pa_nil)) (pg_name (i := 3) sc_law.nd rfl (by first | exact .inl rfl | exact .inr rfl))
     (pss_cons (ps_set (i := 8) sc_law.nd rfl (by first | exact .inl rfl | exact .inr rfl) (pe_call G_law_split (hr.mono (by first | decide | omega)) (by rfl) T.m_law_split T.F_law_split.kp T.b_law_split .nil pass0 (pa_cons (pv 5) pa_nil)))
     (pss_cons (ps_if (pt_not (pt_val (pe_call G_law_same (hr.mono (by first | decide | omega)) (by rfl) T.m_law_same T.F_law_same.kp T.b_law_same .nil pass0 (pa_cons (pv 8) (pa_cons (pe_tup (pa_cons pe_str (pa_cons (pv 7) pa_nil))) pa_nil)))))
      (pss_one (ps_ret pe_bl))
      pss_nil)
     (pss_one (ps_expr (pe_bm PySem.F.plainAttrs_list PySem.F.slot_list_append PySem.F.type_list_append mt_append (pe_ix ix_A (pv 8) pe_int (fun _ _ => rfl)) (pa_cons (pe_tup (pa_cons pe_str (pa_cons pe_int pa_nil))) pa_nil)))))))
    (pss_cutT (ps_for PassesOwn.never rfl (pi_list (pe_lst (pa_cons pe_str (pa_cons pe_str (pa_cons pe_str (pa_cons pe_str (pa_cons (pe_call G_law_pick (hr.mono (by first | decide | omega)) (by rfl) T.m_law_pick T.F_law_pick.kp T.b_law_pick .nil pass0 (pa_cons (pv 1) (pa_cons (pv 2) pa_nil))) pa_nil))))))) (pg_name (i := 9) sc_law.nd rfl (by first | exact .inl rfl | exact .inr rfl))
     (pss_cons (ps_set (i := 10) sc_law.nd rfl (by first | exact .inl rfl | exact .inr rfl) (pe_call G_law_draw (hr.mono (by first | decide | omega)) (by rfl) T.m_law_draw T.F_law_draw.kp T.b_law_draw .nil pass0 (pa_cons (pv 1) (pa_cons (pe_op op_addA (pe_callB call_lenA (by rfl) T.z_len PySem.boot_len (pa_cons (pv 4) pa_nil)) pe_int) pa_nil))))
     (pss_cutT (ps_set (i := 11) sc_law.nd rfl (by first | exact .inl rfl | exact .inr rfl) (pe_op op_addA (pe_op op_addA (pe_slice sl_A (pv 4) po_none (po_some (pv 10))) (pe_lst (pa_cons (pv 9) pa_nil))) (pe_slice sl_A (pv 4) (po_some (pv 10)) po_none)))
     (pss_cutT (ps_if (pt_cmpR op_eqA (pe_call G_law_draw (hr.mono (by first | decide | omega)) (by rfl) T.m_law_draw T.F_law_draw.kp T.b_law_draw .nil pass0 (pa_cons (pv 1) (pa_cons pe_int pa_nil))) pe_int (nomark _))
      (pss_cons (ps_set (i := 12) sc_law.nd rfl (by first | exact .inl rfl | exact .inr rfl) (pe_op op_addA (pe_op op_addA (pv 10) pe_int) (pe_call G_law_draw (hr.mono (by first | decide | omega)) (by rfl) T.m_law_draw T.F_law_draw.kp T.b_law_draw .nil pass0 (pa_cons (pv 1) (pa_cons (pe_op op_sub (pe_op op_addA (pe_callB call_lenA (by rfl) T.z_len PySem.boot_len (pa_cons (pv 4) pa_nil)) pe_int) (pv 10)) pa_nil)))))
      (pss_one (ps_set (i := 11) sc_law.nd rfl (by first | exact .inl rfl | exact .inr rfl) (pe_op op_addA (pe_op op_addA (pe_slice sl_A (pv 11) po_none (po_some (pv 12))) (pe_lst (pa_cons (pe_call G_law_pick (hr.mono (by first | decide | omega)) (by rfl) T.m_law_pick T.F_law_pick.kp T.b_law_pick .nil pass0 (pa_cons (pv 1) (pa_cons (pv 2) pa_nil))) pa_nil))) (pe_slice sl_A (pv 11) (po_some (pv 12)) po_none)))))
      pss_nil)
     (pss_cutT (ps_asg (pe_call G_law_laid (hr.mono (by first | decide | omega)) (by rfl) T.m_law_laid T.F_law_laid.kp T.b_law_laid .nil pass0 (pa_cons (pv 1) (pa_cons (pv 11) pa_nil))) (pg_tup (by rfl) (pgs_cons (pg_name (i := 5) sc_law.nd rfl (by first | exact .inl rfl | exact .inr rfl)) (pgs_cons (pg_name (i := 6) sc_law.nd rfl (by first | exact .inl rfl | exact .inr rfl)) pgs_nil))))
     (pss_one (ps_if (pt_not (pt_val (pe_call G_law_same (hr.mono (by first | decide | omega)) (by rfl) T.m_law_same T.F_law_same.kp T.b_law_same .nil pass0 (pa_cons (pe_call G_law_split (hr.mono (by first | decide | omega)) (by rfl) T.m_law_split T.F_law_split.kp T.b_law_split .nil pass0 (pa_cons (pv 5) pa_nil)) (pa_cons (pe_tup (pa_cons pe_str (pa_cons pe_int (pa_cons (pe_ix ix_A (pv 6) (pv 10) (fun _ _ => rfl)) pa_nil)))) pa_nil)))))
      (pss_one (ps_ret pe_bl))
      pss_nil)))))))
    (pss_cutT (ps_if (pt_not (pt_val (pe_call G_law_same (hr.mono (by first | decide | omega)) (by rfl) T.m_law_same T.F_law_same.kp T.b_law_same .nil pass0 (pa_cons (pe_call G_law_split (hr.mono (by first | decide | omega)) (by rfl) T.m_law_split T.F_law_split.kp T.b_law_split .nil pass0 (pa_cons pe_str pa_nil)) (pa_cons (pe_tup (pa_cons pe_str (pa_cons (pe_lst pa_nil) pa_nil))) pa_nil)))))
     (pss_one (ps_ret pe_bl))
     pss_nil)
    (pss_one (ps_ret (pe_call G_law_same (hr.mono (by first | decide | omega)) (by rfl) T.m_law_same T.F_law_same.kp T.b_law_same .nil pass0 (pa_cons (pe_call G_law_split (hr.mono (by first | decide | omega)) (by rfl) T.m_law_split T.F_law_split.kp T.b_law_split .nil pass0 (pa_cons (pe_op op_mul_str pe_str (pe_call G_law_draw (hr.mono (by first | decide | omega)) (by rfl) T.m_law_draw T.F_law_draw.kp T.b_law_draw .nil pass0 (pa_cons (pv 1) (pa_cons pe_int pa_nil)))) pa_nil)) (pa_cons (pe_tup (pa_cons pe_str (pa_cons (pe_lst pa_nil) pa_nil))) pa_nil)))))))))))))), ?_⟩
  dsimp only [cxOf, Cx.nox, Cx.wish, L2.start, List.map, List.length, List.replicate, List.append]
  walk_at "rd"
  intro st H1 s1 hst
  walk_at "rd"
  intro d H2 s2 d0 d1
  obtain ⟨n, rfl⟩ : ∃ n : Nat, d = 8 - (n : Int) := ⟨(8 - d).toNat, by omega⟩
  have hn : n ≤ 8 := by omega
  have hst := hst.mono s2
  walk_at "rd"
  intro D hD
  refine lc_range (lo := 0) (n := (8 - (8 - (n : Int))).toNat) (fun i H' => Here (∃ xs : List Str, Same H2 H' ∧ H' D = some (.lst (xs.map V.str)) ∧ (∀ x ∈ xs, isPiece x.cps.toList ∧ x.length ≤ 100) ∧ xs.length = i)) (.mk ⟨[], same_new hD, upd_same, (fun _ h => nomatch h), rfl⟩) (fun i H' hi y => ?_) (fun H' y => ?_)
  · obtain ⟨xs, s3, hd, hx, hxl⟩ := y.out
    have hst := hst.mono s3
    walk_at "rd"
    intro z H3 s4 hz zl
    have hd := s4 _ _ hd
    refine ⟨_, hd, by rw [List.length_map, hxl, sizeLine_eq]; omega, .mk ⟨xs ++ [z], fun b u e => ?_, by rw [upd_same, List.map_append]; rfl, fun x hx' => ?_, by rw [List.length_append, hxl]; rfl⟩⟩
    · rw [upd_ne (ne_of_none e hD)]; exact s4 _ _ (s3 _ _ e)
    · rcases List.mem_append.mp hx' with h | h
      · exact hx x h
      · rw [List.mem_singleton.mp h]; exact ⟨hz, zl⟩
  obtain ⟨xs, s3, hd, hx, hxl⟩ := y.out
  have hst := hst.mono s3
  walk_at "rd"
  intro p np
  have cl : (xs.map V.str).length + (eleven.map V.str).length ≤ sizeLine := by rw [List.length_map, hxl, sizeLine_eq]; show _ + 11 ≤ _; omega
  refine .inr (.inr (.inl ⟨D, p, xs.map V.str, eleven.map V.str, rfl, rfl, by rw [upd_ne (ne_of_none hd np)]; exact hd, upd_same, cl, fun q nq => ?_⟩))
  walk_at "rd"
  have s5 : Same H' (upd (upd H' p (.lst (eleven.map V.str))) q (.lst (xs.map V.str ++ eleven.map V.str))) := (same_new np).trans (same_new nq)
  have hst := hst.mono s5
  refine ⟨st, q, _, rfl, hst, SqL.of upd_same, by rw [List.length_append, List.length_map, hxl]; show _ + 11 ≤ _; omega, fun q2 ys H4 s6 nq2 hq2 pm => ?_⟩
  obtain ⟨xs2, rfl, hx2⟩ := strs_of (p := fun x => isPiece x.cps.toList ∧ x.length ≤ 100) (vs := ys) fun v hv => by
    have hv := pm.mem_iff.mp hv
    rcases List.mem_append.mp hv with hv | hv
    · obtain ⟨x, hxx, rfl⟩ := List.mem_map.mp hv
      exact ⟨x, rfl, hx x hxx⟩
    · obtain ⟨x, hxx, rfl⟩ := List.mem_map.mp hv
      have kk : ∀ z ∈ eleven, z.length ≤ 100 := by decide +kernel
      exact ⟨x, rfl, .inr (.inl ⟨x, hxx, rfl⟩), kk x hxx⟩
  have n2 : xs2.length ≤ 19 := by
    have := pm.length_eq
    rw [List.length_map, List.length_append, List.length_map, List.length_map, hxl] at this
    have e : eleven.length = 11 := rfl
    omega
  have hst := hst.mono s6
  walk_at "rd"
  refine ⟨st, q2, xs2, rfl, hst, SqL.of hq2, by omega, fun x hx => ⟨piece_ne (hx2 x hx).1, (hx2 x hx).2⟩, fun t c z cs l g H5 s7 ht hc hz zl zz => ?_⟩
  refine ⟨t, _, rfl, SqT.of ht, rfl, _, _, rfl, _, _, rfl, rfl, ?_⟩
  have hst := hst.mono s7
  have hq2 := s7 _ _ hq2
  have hml : (xs2.map V.str).length = xs2.length := List.length_map _
  have hcl : cs.length = xs2.length := hz.len.symm
  refine ⟨_, rfl, .inr ⟨q2, _, rfl, .inl (SqL.of hq2), ?_⟩⟩
  rw [hml]
  refine ⟨_, rfl, by omega, by omega, fun D2 hD2 => ?_⟩
  have np2 := len_prs hz.len
  refine lc_range (lo := 0) (n := (xs2.length : Int).toNat) (fun i H' => Here (∃ vs : List V, Same H5 H' ∧ H' D2 = some (.lst vs) ∧ ToksAt H' vs ((prs xs2 cs).take i) ∧ vs.length = i)) (.mk ⟨[], same_new hD2, upd_same, .nil, rfl⟩) (fun i H' hi y => ?_) (fun H' y => ?_)
  · obtain ⟨vs, s8, hd2, ai, vl⟩ := y.out
    have hi' : i < xs2.length := by omega
    have hic : i < cs.length := by omega
    have x1 : atI (xs2.map V.str) ((0 : Int) + (i : Nat)) = some (.str xs2[i]) := by rw [Int.zero_add]; exact atI_nat (by rw [List.getElem?_map, List.getElem?_eq_getElem hi']; rfl)
    have x2 : atI (cs.map fun n : Nat => V.int (n : Int)) ((0 : Int) + (i : Nat)) = some (.int (cs[i] : Nat)) := by rw [Int.zero_add]; exact atI_nat (by rw [List.getElem?_map, List.getElem?_eq_getElem hic]; rfl)
    have hq3 := s8 _ _ hq2
    have hc3 := s8 _ _ hc
    walk_at "rd"
    intro t2 nt2
    have nD : D2 ≠ t2 := ne_of_none hd2 nt2
    have hH : Same H' (upd H' t2 (.tup [.str xs2[i], .int (cs[i] : Nat)])) := same_new nt2
    refine ⟨vs, by rw [upd_ne nD]; exact hd2, by rw [vl, sizeLine_eq]; omega, .mk ⟨vs ++ [.ref t2], fun b u e => ?_, upd_same, ?_, by rw [List.length_append, vl]; rfl⟩⟩
    · rw [upd_ne (ne_of_none e hD2)]; exact hH _ _ (s8 _ _ e)
    · rw [← List.take_append_getElem (show i < (prs xs2 cs).length by omega), List.getElem_of_eq_some (prs_get (List.getElem?_eq_getElem hi') (List.getElem?_eq_getElem hic))]
      refine .snoc (ai.keep fun b ys q => ?_) ⟨t2, xs2[i], rfl, by rw [upd_ne (Ne.symm nD)]; exact upd_same, rfl, line_le (hx2 _ (List.getElem_mem hi')).2 (by decide)⟩
      have nb : b ≠ D2 := fun z => by
        rw [z, hd2] at q
        cases q
      rw [upd_ne nb]
      exact hH _ _ q
  obtain ⟨vs, s8, hd2, ai, vl⟩ := y.out
  rw [List.take_of_length_le (by omega)] at ai
  have vl : vs.length = xs2.length := by omega
  have hst := hst.mono s8
  have dueI : ∀ {H''}, Same H' H'' → Is H'' (.ref D2) (.lst ((prs xs2 cs).map dTok)) := fun s => (Is.lst hd2 (by rw [vl, sizeLine_eq]; omega) ai.is).mono s
  have tg : toks (z.length + 1) z.cps.toList 0 = .ok (prs xs2 cs) := by
    have := toks_good hz (fun p hp => (hx2 p hp).1) g
    rw [← zl, ← len_cps] at this
    exact this
  refine ⟨fun σ H6 => Here (∃ o3 o8, σ = [some (.ref a), some (.ref st), some (.str others), o3, some (.ref q2), some (.str z), some (.ref c), some (.ref D2), o8, none, none, none, none] ∧ Same H' H6), ?_, fun σ H6 y => ?_⟩
  walk_at "rd"
  refine for_range (fun i σ H6 => Here (∃ o3 o8, σ = [some (.ref a), some (.ref st), some (.str others), o3, some (.ref q2), some (.str z), some (.ref c), some (.ref D2), o8, none, none, none, none] ∧ Same H' H6)) (.mk ⟨_, _, rfl, Same.refl _⟩) (fun i σ H6 hi y => ?_) (fun σ H6 y => .mk y.out)
  · obtain ⟨o3, o8, rfl, s9⟩ := y.out
    walk_at "rd"
    refine ⟨fun r hr' t3 p3 us H7 s10 np3 ht3 hp3 ha3 => ?_, fun col hc => by rw [tg] at hc; cases hc⟩
    rw [tg] at hr'
    cases hr'
    have us0 : us.length ≤ sizeLine := by rw [ha3.len, np2, sizeLine_eq]; omega
    walk_at "rd"
    intro t4 nt4
    have i3 : Is (upd H7 t4 (.tup [.str "let", .ref D2])) (.ref t3) (.tup [.str "let", .lst ((prs xs2 cs).map dTok)]) :=
      (Is.tup ht3 (Nat.le_of_ble_eq_true rfl) (.cons (.str _ (Nat.le_of_ble_eq_true rfl)) (.cons (.lst hp3 us0 ha3.is) .nil))).mono (same_new nt4)
    have i4 : Is (upd H7 t4 (.tup [.str "let", .ref D2])) (.ref t4) (.tup [.str "let", .lst ((prs xs2 cs).map dTok)]) :=
      Is.tup upd_same (Nat.le_of_ble_eq_true rfl) (.cons (.str _ (Nat.le_of_ble_eq_true rfl)) (.cons (dueI ((s9.trans s10).trans (same_new nt4))) .nil))
    refine ⟨_, _, _, rfl, i3, i4, fits_toks _, fun H8 s11 => ?_⟩
    have ht8 := s11 _ _ (same_new nt4 _ _ ht3)
    have hp8 := s11 _ _ (same_new nt4 _ _ hp3)
    walk_at "rd"
    refine ⟨.inl ⟨rfl, _, SqL.of hp8⟩, ?_⟩
    walk_at "rd"
    intro t5 nt5
    refine ⟨p3, us, _, rfl, rfl, by rw [upd_ne (ne_of_none hp8 nt5)]; exact hp8, by rw [ha3.len, np2, sizeLine_eq]; omega, ?_⟩
    walk_at "rd"
    refine .mk ⟨_, _, rfl, fun b u e => ?_⟩
    have e6 := s9 _ _ e
    have e8 := s11 _ _ (same_new nt4 _ _ (s10 _ _ e6))
    rw [upd_ne (ne_of_none e6 np3), upd_ne (ne_of_none e8 nt5)]
    exact e8
  obtain ⟨o3, o8, rfl, s9⟩ := y.out
  have hst := hst.mono s9
  have hq6 := s9 _ _ (s8 _ _ hq2)
  clear y dueI ai hd2 hx s8
  refine ⟨fun σ H8 => Here (∃ o3 zz cc o8 o9 o10 o11 o12, σ = [some (.ref a), some (.ref st), some (.str others), o3, some (.ref q2), some (.str zz), some (.ref cc), some (.ref D2), o8, o9, o10, o11, o12] ∧ StAt H8 st), ?_, fun σ H8 y => ?_⟩
  walk_at "rd"
  intro ch H7 s10 mch
  walk_at "rd"
  intro p4 np4
  have mlist : ∀ x ∈ (["=", "!", "-", "\n", ⟨#[ch]⟩] : List Str), isStrange x.cps.toList ∧ x.length ≤ 100 := by
    intro x hx
    simp only [List.mem_cons, List.not_mem_nil, or_false] at hx
    rcases hx with rfl | rfl | rfl | rfl | rfl
    · exact ⟨⟨61, by simp, rfl⟩, by decide⟩
    · exact ⟨⟨33, by simp, rfl⟩, by decide⟩
    · exact ⟨⟨45, by simp, rfl⟩, by decide⟩
    · exact ⟨⟨10, by simp, rfl⟩, by decide⟩
    · exact ⟨⟨ch, by simp only [List.mem_cons]; exact .inr (.inr (.inr (.inr mch))), rfl⟩, by show 1 ≤ 100; decide⟩
  generalize hG : upd H7 p4 _ = H8
  obtain ⟨s11, e4⟩ := new_of hG np4
  clear hG
  have hst := hst.mono (s10.trans s11)
  have hq7 := s11 _ _ (s10 _ _ hq6)
  refine ⟨p4, rfl, ⟨_, SqL.of e4⟩, ?_⟩
  refine for_list (xs := (["=", "!", "-", "\n", ⟨#[ch]⟩] : List Str).map V.str) (fun i σ H9 => Here (∃ o3 zz cc o8 o9 o10 o11 o12, σ = [some (.ref a), some (.ref st), some (.str others), o3, some (.ref q2), some (.str zz), some (.ref cc), some (.ref D2), o8, o9, o10, o11, o12] ∧ Same H8 H9)) (.mk ⟨_, _, _, _, _, _, _, _, rfl, Same.refl _⟩) (fun i σ H9 hi y => ?_) (fun i x σ H9 hx y => ?_) (fun σ H9 y => ?_)
  · obtain ⟨o3, zz, cc, o8, o9, o10, o11, o12, rfl, s12⟩ := y.out
    exact SqL.of (s12 _ _ e4)
  · obtain ⟨o3, zz, cc, o8, o9, o10, o11, o12, rfl, s12⟩ := y.out
    rw [List.getElem?_map] at hx
    obtain ⟨sx, hsx, rfl⟩ : ∃ sx, sx ∈ (["=", "!", "-", "\n", ⟨#[ch]⟩] : List Str) ∧ x = V.str sx := by
      cases e : (["=", "!", "-", "\n", ⟨#[ch]⟩] : List Str)[i]? with
      | none => rw [e] at hx; cases hx
      | some sx => rw [e] at hx; cases hx; exact ⟨sx, List.mem_of_getElem? e, rfl⟩
    have hq9 := s12 _ _ hq7
    have hst := hst.mono s12
    obtain ⟨sst, ssl⟩ := mlist sx hsx
    clear hx hsx mlist e4 y
    walk_at "rd"
    intro d H10 s13 d0 d1
    obtain ⟨sp, rfl⟩ : ∃ n : Nat, d = n := ⟨d.toNat, by omega⟩
    have hsp : sp ≤ xs2.length := by omega
    have hq10 := s13 _ _ hq9
    have hst := hst.mono s13
    have l0 : ((xs2.take sp).map V.str).length ≤ 19 := by rw [List.length_map, List.length_take]; omega
    have l0' : ((xs2.drop sp).map V.str).length ≤ 19 := by rw [List.length_map, List.length_drop]; omega
    have dl : (xs2.drop sp).length ≤ 19 := by rw [List.length_drop]; omega
    have drest : ∀ y ∈ xs2.drop sp, y.cps.toList ≠ [] ∧ y.length ≤ 100 := fun y hy => ⟨piece_ne (hx2 y (List.mem_of_mem_drop hy)).1, (hx2 y (List.mem_of_mem_drop hy)).2⟩
    refine ⟨fun σ H' => Here (∃ (b5 : Addr), σ = [some (.ref a), some (.ref st), some (.str others), o3, some (.ref q2), some (.str zz), some (.ref cc), some (.ref D2), o8, some (.str sx), some (.int (sp : Nat)), some (.ref b5), o12] ∧ Same H10 H' ∧ H' b5 = some (.lst ((xs2.take sp ++ sx :: xs2.drop sp).map V.str))), ?_, fun σ HX z1 => ?_⟩
    · walk_at "rd"
      refine .inr (.inl ⟨q2, _, rfl, SqL.of hq10, fun b1 nb1 => ?_⟩)
      rw [show cutV (xs2.map V.str) none (some (sp : Int)) = (xs2.take sp).map V.str by rw [cutV_to (by omega), List.map_take]; rfl]
      generalize hG : upd H10 b1 _ = G1
      obtain ⟨t1, e1⟩ := new_of hG nb1
      clear hG
      walk_at "rd"
      intro b2 nb2
      generalize hG : upd G1 b2 _ = G2
      obtain ⟨t2, e2⟩ := new_of hG nb2
      clear hG
      refine .inr (.inr (.inl ⟨b1, b2, _, [V.str sx], rfl, rfl, t2 _ _ e1, e2, by rw [sizeLine_eq]; show _ + 1 ≤ _; omega, fun b3 nb3 => ?_⟩))
      generalize hG : upd G2 b3 _ = G3
      obtain ⟨t3, e3⟩ := new_of hG nb3
      clear hG
      have sm3 := (t1.trans t2).trans t3
      have hq11 := sm3 _ _ hq10
      walk_at "rd"
      refine .inr (.inl ⟨q2, _, rfl, SqL.of hq11, fun b4 nb4 => ?_⟩)
      rw [show cutV (xs2.map V.str) (some (sp : Int)) none = (xs2.drop sp).map V.str by rw [cutV_from (by omega), List.map_drop]; rfl]
      generalize hG : upd G3 b4 _ = G4
      obtain ⟨t4, e4⟩ := new_of hG nb4
      clear hG
      refine .inr (.inr (.inl ⟨b3, b4, _, _, rfl, rfl, t4 _ _ e3, e4, by rw [List.length_append, sizeLine_eq]; show _ + 1 + _ ≤ _; omega, fun b5 nb5 => ?_⟩))
      generalize hG : upd G4 b5 _ = G5
      obtain ⟨t5, e5⟩ := new_of hG nb5
      clear hG
      walk_at "rd"
      refine .mk ⟨b5, rfl, (sm3.trans t4).trans t5, ?_⟩
      rw [e5, List.map_append, List.map_cons, List.append_assoc]
      rfl
    obtain ⟨b5, rfl, sm5, hb5⟩ := z1.out
    have hst := hst.mono sm5
    have hq11 := sm5 _ _ hq10
    clear z1
    refine ⟨fun σ H' => Here (∃ (e5 : Addr) (rest : List Str) (o12 : Option V), σ = [some (.ref a), some (.ref st), some (.str others), o3, some (.ref q2), some (.str zz), some (.ref cc), some (.ref D2), o8, some (.str sx), some (.int (sp : Nat)), some (.ref e5), o12] ∧ Same HX H' ∧ H' e5 = some (.lst ((xs2.take sp ++ sx :: rest).map V.str)) ∧ (∀ y ∈ rest, y.cps.toList ≠ [] ∧ y.length ≤ 100) ∧ rest.length ≤ 20), ?_, fun σ H10 z1 => ?_⟩
    · walk_at "rd"
      intro d2 H10 s13 _ _
      have hst := hst.mono s13
      have hq12 := s13 _ _ hq11
      have hb6 := s13 _ _ hb5
      walk_at "rd"
      refine ite2 (fun e => ?_) (fun e => ?_)
      · have lk : ((xs2.map V.str).length : Int) + 1 - sp < BIG := lt_big (by omega)
        have lk0 : 0 < ((xs2.map V.str).length : Int) + 1 - sp := by omega
        walk_at "r1"
        walk_at "r1"
        walk_at "r1"
        refine ⟨_, rfl, .inr ⟨q2, _, rfl, .inl (SqL.of hq12), ?_⟩⟩
        refine .inl ⟨_, _, rfl, rfl, ?_⟩
        refine ⟨_, rfl, _, _, rfl, rfl, st, _, rfl, hst, lk0, lk, fun kd H11 s14 k0 k1 => ?_⟩
        obtain ⟨kk, rfl⟩ : ∃ n : Nat, kd = n := ⟨kd.toNat, by omega⟩
        have hst := hst.mono s14
        have hb7 := s14 _ _ hb6
        have ate : (sp : Int) + 1 + kk = ((sp + 1 + kk : Nat) : Int) := by omega
        have t1 : cutV ((xs2.take sp ++ sx :: xs2.drop sp).map V.str) none (some ((sp : Int) + 1 + kk)) = (xs2.take sp ++ sx :: (xs2.drop sp).take kk).map V.str := by
          rw [cutV_to (by omega), ate, Int.toNat_natCast, ← List.map_take, take_mid hsp]
        have t2 : cutV ((xs2.take sp ++ sx :: xs2.drop sp).map V.str) (some ((sp : Int) + 1 + kk)) none = ((xs2.drop sp).drop kk).map V.str := by
          rw [cutV_from (by omega), ate, Int.toNat_natCast, ← List.map_drop, drop_mid hsp]
        have l1 : ((xs2.take sp ++ sx :: (xs2.drop sp).take kk).map V.str).length ≤ 40 := by
          simp only [List.length_map, List.length_append, List.length_cons, List.length_take, List.length_drop]
          omega
        have l2 : (((xs2.drop sp).drop kk).map V.str).length ≤ 40 := by
          simp only [List.length_map, List.length_drop]
          omega
        walk_at "rd"
        refine .inr (.inl ⟨b5, _, rfl, SqL.of hb7, fun c1 nc1 => ?_⟩)
        rw [t1]
        generalize hG : upd H11 c1 _ = G1
        obtain ⟨u1, e1⟩ := new_of hG nc1
        clear hG
        have hst := hst.mono u1
        walk_at "rd"
        intro ch2 H12 s15 mch2
        have hc1 := s15 _ _ e1
        have hb8 := s15 _ _ (u1 _ _ hb7)
        walk_at "rd"
        intro c2 nc2
        generalize hG : upd H12 c2 _ = G2
        obtain ⟨u2, e2⟩ := new_of hG nc2
        clear hG
        refine .inr (.inr (.inl ⟨c1, c2, _, [.str ⟨#[ch2]⟩], rfl, rfl, u2 _ _ hc1, e2, by rw [sizeLine_eq]; show _ + 1 ≤ _; omega, fun c3 nc3 => ?_⟩))
        generalize hG : upd G2 c3 _ = G3
        obtain ⟨u3, e3⟩ := new_of hG nc3
        clear hG
        have hb9 := u3 _ _ (u2 _ _ hb8)
        walk_at "rd"
        refine .inr (.inl ⟨b5, _, rfl, SqL.of hb9, fun c4 nc4 => ?_⟩)
        rw [t2]
        generalize hG : upd G3 c4 _ = G4
        obtain ⟨u4, e4⟩ := new_of hG nc4
        clear hG
        refine .inr (.inr (.inl ⟨c3, c4, _, _, rfl, rfl, u4 _ _ e3, e4, by rw [List.length_append, sizeLine_eq]; show _ + 1 + _ ≤ _; omega, fun c5 nc5 => ?_⟩))
        generalize hG : upd G4 c5 _ = G5
        obtain ⟨u5, e5⟩ := new_of hG nc5
        clear hG
        walk_at "rd"
        refine .mk ⟨c5, (xs2.drop sp).take kk ++ ⟨#[ch2]⟩ :: (xs2.drop sp).drop kk, _, rfl, (((((s13.trans s14).trans u1).trans s15).trans u2).trans u3).trans (u4.trans u5), ?_, fun y hy => ?_, ?_⟩
        · rw [e5]
          simp only [List.map_append, List.map_cons, List.append_assoc, List.cons_append, List.nil_append]
        · rcases List.mem_append.mp hy with hy | hy
          · exact drest y (List.mem_of_mem_take hy)
          · rcases List.mem_cons.mp hy with rfl | hy
            · exact ⟨by simp, by show 1 ≤ 100; decide⟩
            · exact drest y (List.mem_of_mem_drop hy)
        · simp only [List.length_append, List.length_cons, List.length_take, List.length_drop]
          omega
      · walk_at "rd"
        exact .mk ⟨b5, xs2.drop sp, _, rfl, s13, hb6, drest, by omega⟩
    obtain ⟨e5, rest, o12', rfl, s14, he5, hrest, rl⟩ := z1.out
    have hst := hst.mono s14
    have tks : (xs2.take sp).length = sp := by rw [List.length_take]; omega
    clear z1 hb5 drest dl l0 l0'
    refine ⟨fun σ H' => Here (∃ (z6 : Str) (c6 : Addr) (cs6 : List Nat) (col : Nat), σ = [some (.ref a), some (.ref st), some (.str others), o3, some (.ref q2), some (.str z6), some (.ref c6), some (.ref D2), o8, some (.str sx), some (.int (sp : Nat)), some (.ref e5), o12'] ∧ Same H10 H' ∧ z6.length ≤ 1000000 ∧ H' c6 = some (.lst (cs6.map fun n : Nat => V.int (n : Int))) ∧ cs6[sp]? = some col ∧ toks (z6.length + 1) z6.cps.toList 0 = .error col), ?_, fun σ H11 z1 => ?_⟩
    · walk_at "rd"
      refine ⟨st, e5, _, rfl, hst, SqL.of he5, by rw [List.length_append, tks, List.length_cons]; omega, fun x hx => ?_, fun t6 c6 z6 cs6 l6 g6 H11 s15 ht6 hc6 hz6 zl6 zz6 => ?_⟩
      · rcases List.mem_append.mp hx with hx | hx
        · have hx := List.mem_of_mem_take hx
          exact ⟨piece_ne (hx2 x hx).1, (hx2 x hx).2⟩
        · rcases List.mem_cons.mp hx with rfl | hx
          · obtain ⟨c, _, e⟩ := sst
            exact ⟨by rw [e]; simp, ssl⟩
          · exact hrest x hx
      refine ⟨t6, _, rfl, SqT.of ht6, rfl, _, _, rfl, _, _, rfl, rfl, ?_⟩
      obtain ⟨col, hcol, te⟩ := toks_strange hz6 (fun p hp => (hx2 p (List.mem_of_mem_take hp)).1) sst g6
      rw [tks] at hcol
      rw [← zl6, ← len_cps] at te
      exact .mk ⟨z6, c6, cs6, col, rfl, s15, zz6, hc6, hcol, te⟩
    obtain ⟨z6, c6, cs6, col, rfl, s15, zz6, hc6, hcol, te⟩ := z1.out
    clear z1
    walk_at "rd"
    refine ⟨(fun r hr' => by rw [te] at hr'; cases hr'), fun col' hc' t7 H12 s16 ht7 => ?_⟩
    rw [te] at hc'
    cases hc'
    have hc7 := s16 _ _ hc6
    have x3 : atI (cs6.map fun n : Nat => V.int (n : Int)) (sp : Int) = some (.int (col : Nat)) := atI_nat (by rw [List.getElem?_map, hcol]; rfl)
    walk_at "rd"
    intro t8 nt8
    have i7 : Is (upd H12 t8 (.tup [.str "refused", .int 1, .int (col : Nat)])) (.ref t7) (.tup [.str "refused", .int 1, .int (col : Nat)]) :=
      (Is.tup ht7 (Nat.le_of_ble_eq_true rfl) (.cons (.str _ (Nat.le_of_ble_eq_true rfl)) (.cons (.int _) (.cons (.int _) .nil)))).mono (same_new nt8)
    refine ⟨_, _, _, rfl, i7, Is.tup upd_same (Nat.le_of_ble_eq_true rfl) (.cons (.str _ (Nat.le_of_ble_eq_true rfl)) (.cons (.int _) (.cons (.int _) .nil))), fun d hd => ?_, fun H13 s17 => ?_⟩
    · simp only [List.mem_cons, List.not_mem_nil, or_false] at hd
      rcases hd with rfl | rfl | rfl <;> trivial
    walk_at "rd"
    exact .mk ⟨_, _, _, _, _, _, _, _, rfl, (((((s12.trans s13).trans sm5).trans s14).trans s15).trans s16).trans ((same_new nt8).trans s17)⟩
  obtain ⟨o3, zz, cc, o8, o9, o10, o11, o12, rfl, s12⟩ := y.out
  exact .mk ⟨_, _, _, _, _, _, _, _, rfl, hst.mono s12⟩
  obtain ⟨o3, zz, cc, o8, o9, o10, o11, o12, rfl, hst⟩ := y.out
  refine ⟨fun σ H9 => Here (StAt H9 st ∧ σ = [some (.ref a), some (.ref st), some (.str others), o3, some (.ref q2), some (.str zz), some (.ref cc), some (.ref D2), o8, o9, o10, o11, o12]), ?_, fun σ H9 y => ?_⟩
  have tb0 : toks (("" : Str).length + 1) ("" : Str).cps.toList 0 = .ok [] := toks_blank 0 "" rfl
  walk_at "rd"
  refine ⟨fun r hr' t6 p6 us H9 s12 np6 ht6 hp6 ha6 => ?_, fun col hc => by rw [tb0] at hc; cases hc⟩
  rw [tb0] at hr'
  cases hr'
  have us0 : us.length ≤ sizeLine := by rw [ha6.len]; exact Nat.zero_le _
  walk_at "rd"
  intro p7 np7
  walk_at "rd"
  intro t7 nt7
  have sm7 := (same_new (o := .lst []) np7).trans (same_new (o := .tup [.str "let", .ref p7]) nt7)
  have i6 := (Is.tup ht6 (Nat.le_of_ble_eq_true rfl) (.cons (.str _ (Nat.le_of_ble_eq_true rfl)) (.cons (.lst hp6 us0 ha6.is) .nil))).mono sm7
  have n7 : p7 ≠ t7 := ne_of_none upd_same nt7
  refine ⟨_, _, _, rfl, i6, Is.tup upd_same (Nat.le_of_ble_eq_true rfl) (.cons (.str _ (Nat.le_of_ble_eq_true rfl)) (.cons (.lst (vs := []) (by rw [upd_ne n7]; exact upd_same) (Nat.zero_le _) .nil) .nil)), fits_toks [], fun H10 s13 => ?_⟩
  walk_at "rd"
  exact .mk ⟨hst.mono ((s12.trans sm7).trans s13), rfl⟩
  obtain ⟨hst, rfl⟩ := y.out
  walk_at "rd"
  intro d H11 s14 d0 d1
  obtain ⟨g2, rfl⟩ : ∃ n : Nat, d = n := ⟨d.toNat, by omega⟩
  refine ⟨" ", g2, rfl, rfl, by decide, by omega, fun r2 er2 => ?_⟩
  have r2l : r2.length = g2 := rep_len er2
  rw [flat_rep] at er2
  have tb1 := toks_blank g2 r2 er2
  walk_at "rd"
  refine ⟨fun r hr' t8 p8 us H12 s15 np8 ht8 hp8 ha8 => ?_, fun col hc => by rw [tb1] at hc; cases hc⟩
  rw [tb1] at hr'
  cases hr'
  have us0 : us.length ≤ sizeLine := by rw [ha8.len]; exact Nat.zero_le _
  walk_at "rd"
  intro p9 np9
  walk_at "rd"
  intro t9 nt9
  have sm9 := (same_new (o := .lst []) np9).trans (same_new (o := .tup [.str "let", .ref p9]) nt9)
  have i8 := (Is.tup ht8 (Nat.le_of_ble_eq_true rfl) (.cons (.str _ (Nat.le_of_ble_eq_true rfl)) (.cons (.lst hp8 us0 ha8.is) .nil))).mono sm9
  have n9 : p9 ≠ t9 := ne_of_none upd_same nt9
  exact ⟨_, _, _, rfl, i8, Is.tup upd_same (Nat.le_of_ble_eq_true rfl) (.cons (.str _ (Nat.le_of_ble_eq_true rfl)) (.cons (.lst (vs := []) (by rw [upd_ne n9]; exact upd_same) (Nat.zero_le _) .nil) .nil)), fits_toks [], fun H10 s13 => k _⟩
end
end K01
namespace K01
open PySem PySem.Spec PyProof.Rows L2 TK
abbrev RowO : PySem.W.OpenRow := PySem.W.OpenLaw.row PySem.Challenge.rw_takenorelse_k01_tokens_of_a_line
abbrev hk : PySem.W.Hook := hookN 6 fa fn ex fi
def ob (s : PySem.W.SharedT) : AlN := obsN 6 fa fn ex fi (HandSHeadRun.getT s)
theorem ob_eq (s : PySem.W.SharedT) : ob s = hk.obs s.abs := obsN_eq (HandSHeadRun.getT_eq s)
def loose : List PySem.Str := (["ElseputError", "BadName", "BadText", "LETTERS", "DIGITS", "SIGNS", "run_end", "token_end", "tokens", "_law_state", "_law_draw", "_law_pick", "_law_mixed", "_law_is_int", "_law_same", "_law_reserved", "_law_word", "_law_piece", "_law_touch", "_law_laid", "_law_split"] : List PySem.Str)
theorem run (w : World) : HandSHeadRun.RunEq RowO (PySem.W.view RowO.prog [24]) hk ob 100000 loose w := by
  intro os
  kernel_rfl
end K01
open PySem PySem.W PySem.Calls PyProof.Rows
set_option maxRecDepth 100000 in
set_option maxHeartbeats 0 in
theorem PySem.Challenge.cw_takenorelse_k01_tokens_of_a_line_holds : PySem.Challenge.rw_takenorelse_k01_tokens_of_a_line.Holds := by
  w_on; o_law
  refine HandSHeadRun.head_any (r := OpenLaw.row PySem.Challenge.rw_takenorelse_k01_tokens_of_a_line) (q := view (OpenLaw.row PySem.Challenge.rw_takenorelse_k01_tokens_of_a_line).prog [24]) (H := K01.hk) (ob := K01.ob) (M := 100000) (loose := K01.loose) (d := HandSHeadRun.topDef (OpenLaw.row PySem.Challenge.rw_takenorelse_k01_tokens_of_a_line).prog 24) (kwd := []) K01.ob_eq
    (by kernel_rfl) (fun s => by kernel_rfl) K01.run (by kernel_rfl) (by kernel_rfl) (by kernel_rfl) (by rfl) (by first | assumption | decide +kernel) (by decide +kernel) ⟨rfl, rfl, rfl, rfl, rfl, by decide +kernel⟩ ?hw ?hc
  case hw => w_witness2
  case hc =>
    exact TK.row_byN (l := PySem.Challenge.rw_takenorelse_k01_tokens_of_a_line) (k := 7) (sp := K01.sp_law) (f := fun K => He.fAd K K01.at_law) (fd := fun K => TK.fdOf K K01.at_law) rfl (by kernel_rfl) ⟨rfl, by decide, by decide⟩ (by kernel_rfl)
      (fun K mg T => K01.Tx.m_law T) (fun K mg T s u => (L2.FunD.bindsA (ps := ["script"]) (K01.Tx.F_law T) (fun _ _ _ _ _ _ us hl => match us, hl with | [_], _ => rfl)) s [u] rfl)
      (fun K H a ns hl hO hS => K01.law_pre K H a ns hl hO hS) (fun w K mg base T => K01.ok_law T)
#print axioms PySem.Challenge.cw_takenorelse_k01_tokens_of_a_line_holds
