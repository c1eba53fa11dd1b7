import PyProof.Rows.All
import Wide.All
import OpenK.AllK
import Wide.FinOn
import KE.KStateDown
import Lean
import HandS.ForMost
import HandS.Style
import HandS.IsInst
import HandS.Wide
import HandS.Defaults
import HandS.WordsExc
import HandS.Head0
import HandS.Head1
import HandS.Head2
import HandS.HeadEnd
import HandS.HeadHook1
import HandS.HeadHook2
import PySem.Challenge.RW_takenorelse_k00_names_of_letters
set_option Elab.async false
set_option linter.all false
set_option maxRecDepth 100000
set_option maxHeartbeats 4000000
/-! Own toolkit, part a: rules for operators whatever the kind of their operands; a list of a promise seen from outside as one thing that does not change. -/
namespace TK
open PySem PySem.Spec PyProof.Rows L2
section ops
variable {X : Cx}
/-- x is True, x is False, whatever x is -/
def rIsA : R2 := fun x y H Q => ∃ b, y = .bl b ∧ Q (.bl (decide (x = .bl b))) H
def rIsnotA : R2 := fun x y H Q => ∃ b, y = .bl b ∧ Q (.bl (!decide (x = .bl b))) H
theorem RelV.bool_iff {x : V} {v : Value} {b : Bool} (r : RelV x v) : (v == Value.bool b) = decide (x = .bl b) ∧ plainIs v (.bool b) = true := by
  cases x with
  | non => cases r; exact ⟨rfl, rfl⟩
  | bl c => cases r; exact ⟨by cases c <;> cases b <;> rfl, rfl⟩
  | int _ => obtain ⟨t, rfl⟩ := r; exact ⟨rfl, rfl⟩
  | str _ => obtain ⟨t, rfl⟩ := r; exact ⟨rfl, rfl⟩
  | byt _ => obtain ⟨t, rfl⟩ := r; exact ⟨rfl, rfl⟩
  | flt _ => obtain ⟨t, rfl⟩ := r; exact ⟨rfl, rfl⟩
  | ref _ => cases r; exact ⟨rfl, rfl⟩
  | ty _ => cases r; exact ⟨rfl, rfl⟩
theorem op_isA : OpR X (compareOp .Is) rIsA := by
  intro pins s σ H x y v u Q I rx ry h
  obtain ⟨b, rfl, q⟩ := h
  cases (show u = Value.bool b from ry)
  obtain ⟨e1, e2⟩ := RelV.bool_iff (b := b) rx
  exact wpAny_is_plain e2 ⟨.bl _, H, I, by rw [e1]; rfl, q⟩
theorem op_isnotA : OpR X (compareOp .IsNot) rIsnotA := by
  intro pins s σ H x y v u Q I rx ry h
  obtain ⟨b, rfl, q⟩ := h
  cases (show u = Value.bool b from ry)
  obtain ⟨e1, e2⟩ := RelV.bool_iff (b := b) rx
  exact wpAny_isNot_plain e2 ⟨.bl _, H, I, by rw [e1]; rfl, q⟩
abbrev rAddI : R2 := rI0 fun i j => .int (i + j)
def rAddS : R2 := fun x y H Q => ∃ i j, x = .str i ∧ y = .str j ∧ i.length + j.length ≤ sizeLine ∧ Q (.str (i ++ j)) H
/-- + of ints, texts, lists, tuples -/
abbrev rAddA (K : PySem.W.Frag) : R2 := fun x y H Q => rAddI x y H Q ∨ rAddS x y H Q ∨ rCat x y H Q ∨ rCatT K x y H Q
theorem op_addA : OpR X (binaryOp .Add) (rAddA X.K) := op_add.or ((op_add_str : OpR X (binaryOp .Add) rAddS).or (op_cat.or op_catT))
abbrev rMulA : R2 := rI CMul fun i j => .int (i * j)
theorem op_mulA : OpR X (binaryOp .Mult) rMulA := op_mul
abbrev rIxA (K : PySem.W.Frag) : R2 := rIx K
theorem ix_A : IxR X (rIxA X.K) := ix_seq
theorem SlR.or {r r' : V → Option Int → Option Int → Hp → VK → Prop} (h : SlR X r) (h' : SlR X r') : SlR X (fun x l u H Q => r x l u H Q ∨ r' x l u H Q) := by
  intro pins s σ H x v vl vu lo hi sl Q I rx hs pl pu q
  rcases q with q | q
  · exact h pins s σ H x v vl vu lo hi sl Q I rx hs pl pu q
  · exact h' pins s σ H x v vl vu lo hi sl Q I rx hs pl pu q
/-- x[a:b] of a text, a list, a tuple -/
theorem sl_A : SlR X (fun x l u H Q => rSlS x l u H Q ∨ rSlL X.K x l u H Q ∨ rSlT X.K x l u H Q) := SlR.or sl_str (SlR.or sl_list sl_tup)
theorem CallR.or {f : Value} {r r' : List V → Hp → VK → Prop} (h : CallR X f r) (h' : CallR X f r') : CallR X f (fun xs H Q => r xs H Q ∨ r' xs H Q) := by
  intro pins s σ H vs us Q I r1 q
  rcases q with q | q
  · exact h pins s σ H vs us Q I r1 q
  · exact h' pins s σ H vs us Q I r1 q
def rLenS : List V → Hp → VK → Prop := fun xs H Q => ∃ z, xs = [.str z] ∧ z.length ≤ sizeLine ∧ Q (.int z.length) H
def rLenL (K : PySem.W.Frag) : List V → Hp → VK → Prop := fun xs H Q => ∃ p ys, xs = [.ref p] ∧ (SqL K H p ys ∨ SqT K H p ys) ∧ Q (.int ys.length) H
theorem call_lenA : CallR X (.builtin "len") (fun xs H Q => rLenS xs H Q ∨ rLenL X.K xs H Q) := CallR.or (r := rLenS) (r' := rLenL X.K) call_len_str call_len_seq
def rInSign : R2 := fun x y H Q => ∃ (c : Nat) (z : Str), x = .str ⟨#[c]⟩ ∧ y = .str z ∧ Q (.bl (decide (c ∈ z.cps.toList))) H
def rNinSign : R2 := fun x y H Q => ∃ (c : Nat) (z : Str), x = .str ⟨#[c]⟩ ∧ y = .str z ∧ Q (.bl (!decide (c ∈ z.cps.toList))) H
def rInQ (K : PySem.W.Frag) : R2 := fun x y H Q => ∃ p xs, y = .ref p ∧ (SqL K H p xs ∨ SqT K H p xs) ∧ flatV x = true ∧ xs.all flatV = true ∧ Q (.bl (inV x xs)) H
def rNinQ (K : PySem.W.Frag) : R2 := fun x y H Q => ∃ p xs, y = .ref p ∧ (SqL K H p xs ∨ SqT K H p xs) ∧ flatV x = true ∧ xs.all flatV = true ∧ Q (.bl (!inV x xs)) H
theorem op_inQ : OpR X (compareOp .In) (rInQ X.K) := op_in_seq
theorem op_ninQ : OpR X (compareOp .NotIn) (rNinQ X.K) := op_notIn_seq
/-- x in y: a sign in a text; a flat thing in a list or a tuple -/
theorem op_inA : OpR X (compareOp .In) (fun x y H Q => rInSign x y H Q ∨ rInQ X.K x y H Q) := OpR.or (r := rInSign) op_in_sign op_inQ
theorem op_ninA : OpR X (compareOp .NotIn) (fun x y H Q => rNinSign x y H Q ∨ rNinQ X.K x y H Q) := OpR.or (r := rNinSign) op_notIn_sign op_ninQ
end ops
/-! ### a list that its users see as one thing -/
/-- at st stands a list whose items are so -/
def lsat (S : List V → Prop) (st : Addr) : Heap → Prop := fun h => ∃ xs, S xs ∧ xs.length ≤ sizeLine ∧ ∃ (its : List Value) (n : Nat), Vals xs its ∧ h.get? st = some { cls := .type "list", data := .seq its.toArray n }
section view
variable {P : Program} {w : World} {K : PySem.W.Frag} {mg : Str → Option Value} {base : Heap} {H H' : Hp} {h h' : Heap} {st : Addr} {S : List V → Prop} {xs : List V} {u : HO}
theorem hok_swap {o : HO} (x : HOk P w H h) (hs : H st = some u) (hu : ∀ y, u ≠ .own y) (ht : ∀ y, u ≠ .tup y) (new : ObjOk P w (upd H st o) h st o) : HOk P w (upd H st o) h := fun b v e => by
  by_cases hb : b = st
  · subst hb; rw [upd_same] at e; cases e; exact new
  · rw [upd_ne hb] at e
    refine (x b v e).stay (fun c v _ q => q) (fun c q => ?_) fun c ys q => ?_
    · have : c ≠ st := fun z => by subst z; rw [hs] at q; cases q; exact hu _ rfl
      rw [upd_ne this]; exact q
    · have : c ≠ st := fun z => by subst z; rw [hs] at q; cases q; exact ht _ rfl
      rw [upd_ne this]; exact q
theorem open_lsat (x : HOk P w H h) (hs : H st = some (.ext (lsat S st))) : ∃ xs, S xs ∧ HOk P w (upd H st (.lst xs)) h := by
  obtain ⟨⟨xs, s1, z, its, n, r, e⟩, _, _⟩ := x st _ hs
  exact ⟨xs, s1, hok_swap x hs (fun _ => nofun) (fun _ => nofun) ⟨z, its, n, r, e⟩⟩
theorem shut_lsat (x : HOk P w H h) (hs : H st = some (.lst xs)) (sx : S xs) : HOk P w (upd H st (.ext (lsat S st))) h := by
  obtain ⟨z, its, n, r, e⟩ := x st _ hs
  refine hok_swap x hs (fun _ => nofun) (fun _ => nofun) ⟨⟨xs, sx, z, its, n, r, e⟩, ⟨_, e⟩, fun h1 h2 q k => ?_⟩
  obtain ⟨xs, sx, z, its, n, r, e⟩ := q
  exact ⟨xs, sx, z, its, n, r, k _ e⟩
theorem un_open {fs ex : List Addr} {o : HO} (x : Un fs ex (upd H st o) H' h h') (hs : H st = some u) (ht : ∀ y, u ≠ .tup y) (hf : ∀ a b, u ≠ .frz a b) (hl : ∀ a, u ≠ .tbl a) : Un fs ex H H' h h' := by
  have ne : ∀ b, H b = none → (upd H st o) b = none := fun b e => by
    have : b ≠ st := fun z => by subst z; rw [hs] at e; cases e
    rw [upd_ne this]; exact e
  refine ⟨fun b ob q n => x.keep b ob q (ne b n), fun b ob q n => x.slot b ob q (ne b n), fun b ob q n => x.free b ob q (ne b n), x.there, fun b ys q => ?_, fun b o v q => ?_, fun b ps q => ?_⟩
  · have : b ≠ st := fun z => by subst z; rw [hs] at q; cases q; exact ht _ rfl
    exact x.tups b ys (by rw [upd_ne this]; exact q)
  · have : b ≠ st := fun z => by subst z; rw [hs] at q; cases q; exact hf _ _ rfl
    exact x.frzs b o v (by rw [upd_ne this]; exact q)
  · have : b ≠ st := fun z => by subst z; rw [hs] at q; cases q; exact hl _ rfl
    exact x.tbls b ps (by rw [upd_ne this]; exact q)
theorem un_shut {fs ex : List Addr} {o : HO} (x : Un fs ex H H' h h') (hs : H' st = some u) (ht : ∀ y, u ≠ .tup y) (hf : ∀ a b, u ≠ .frz a b) (hl : ∀ a, u ≠ .tbl a) : Un fs ex H (upd H' st o) h h' := by
  refine ⟨x.keep, x.slot, fun b ob q n hx => ?_, x.there, fun b ys q => ?_, fun b o v q => ?_, fun b ps q => ?_⟩
  · have e := x.free b ob q n hx
    have : b ≠ st := fun z => by subst z; rw [hs] at e; cases e
    rw [upd_ne this]; exact e
  · have e := x.tups b ys q
    have : b ≠ st := fun z => by subst z; rw [hs] at e; cases e; exact ht _ rfl
    rw [upd_ne this]; exact e
  · have e := x.frzs b o v q
    have : b ≠ st := fun z => by subst z; rw [hs] at e; cases e; exact hf _ _ rfl
    rw [upd_ne this]; exact e
  · obtain ⟨m, e⟩ := x.tbls b ps q
    have : b ≠ st := fun z => by subst z; rw [hs] at e; cases e; exact hl _ rfl
    exact ⟨m, by rw [upd_ne this]; exact e⟩
variable {k : Nat} {f : Addr} {fd : FuncData} {ps : List Str} {sp sp' : Sp}
/-- a def that works on the list at st, told to those who see it as one thing -/
theorem fn_view (F : FnOk P w K mg base CX0 k f fd ps sp) (hl : ∀ vs H Q E, sp' vs H Q E → vs.length = ps.length)
    (hv : ∀ vs H Q E, sp' vs H Q E → ∃ st S, H st = some (.ext (lsat S st)) ∧ ∀ xs, S xs → sp vs (upd H st (.lst xs)) (fun v H' => ∃ xs', S xs' ∧ H' st = some (.lst xs') ∧ Q v (upd H' st (.ext (lsat S st)))) E) :
    FnOk P w K mg base CX0 k f fd ps sp' := by
  refine ⟨hl, fun A outer s H args us vs Q E hr e0 hb rv hsp => ?_⟩
  obtain ⟨st, S, hs, hS⟩ := hv vs H Q E hsp
  obtain ⟨xs, sx, hok⟩ := open_lsat e0.hok hs
  have ne : ∀ b o, H b = none → (upd H st o) b = none := fun b o e => by
    have : b ≠ st := fun z => by subst z; rw [hs] at e; cases e
    rw [upd_ne this]; exact e
  have e1 : Env0 P w K mg base A outer s (upd H st (.lst xs)) := ⟨e0.frames, e0.mod, fun b o e => ⟨(e0.bs b o e).1, ne b _ (e0.bs b o e).2⟩, e0.bsz, e0.funs, fun b hb => ne b _ (e0.frf b hb), hok, e0.bare⟩
  refine codeAny_mono (F.run A outer s _ args us vs _ E hr e1 hb rv (hS xs sx)) fun r s' h => ?_
  cases r with
  | error e => exact h
  | ok fl =>
    cases fl with
    | ret v =>
      obtain ⟨v, H', os, bare, un, hok', r', xs', sx', hs', q⟩ := h
      exact ⟨v, _, os, bare, un_shut (un_open un hs (fun _ => nofun) (fun _ _ => nofun) (fun _ => nofun)) hs' (fun _ => nofun) (fun _ _ => nofun) (fun _ => nofun), shut_lsat hok' hs' sx', r', q⟩
    | next => exact h
    | brk => exact h
    | cont => exact h
/-- a def that makes the list -/
theorem fn_seal (F : FnOk P w K mg base CX0 k f fd ps sp) (hl : ∀ vs H Q E, sp' vs H Q E → vs.length = ps.length)
    (hv : ∀ vs H Q E, sp' vs H Q E → sp vs H (fun v H' => ∃ st S xs', S xs' ∧ H' st = some (.lst xs') ∧ Q v (upd H' st (.ext (lsat S st)))) E) :
    FnOk P w K mg base CX0 k f fd ps sp' := by
  refine ⟨hl, fun A outer s H args us vs Q E hr e0 hb rv hsp => ?_⟩
  refine codeAny_mono (F.run A outer s _ args us vs _ E hr e0 hb rv (hv vs H Q E hsp)) fun r s' h => ?_
  cases r with
  | error e => exact h
  | ok fl =>
    cases fl with
    | ret v =>
      obtain ⟨v, H', os, bare, un, hok', r', st, S, xs', sx', hs', q⟩ := h
      exact ⟨v, _, os, bare, un_shut un hs' (fun _ => nofun) (fun _ _ => nofun) (fun _ => nofun), shut_lsat hok' hs' sx', r', q⟩
    | next => exact h
    | brk => exact h
    | cont => exact h
end view
end TK
namespace TK
open PySem PySem.Spec PyProof.Rows L2
section
variable {X : Cx}
theorem op_ltA : OpR X (compareOp .Lt) (rI0 fun i j => .bl (decide (i < j))) := op_lt
theorem op_eqA : OpR X (compareOp .Eq) rEq := op_eq
theorem op_neA : OpR X (compareOp .NotEq) rNe := op_ne
theorem set_A : PSet X rSetL := set_list
end
/-! ### the law's own draws -/
/-- what a draw may be below -/
theorem big_ex : ∃ b : Int, (2 : Int) ^ 63 < b ∧ b ≤ 2 ^ 8000 := ⟨2 ^ 8000, by decide +kernel, by decide +kernel⟩
noncomputable def BIG : Int := Classical.choose big_ex
theorem lt_big {i : Int} (h : i < 2 ^ 63) : i < BIG := by
  have : (2 : Int) ^ 63 < BIG := (Classical.choose_spec big_ex).1
  omega
theorem line_big {n : Nat} (h : n ≤ sizeLine) : (n : Int) < BIG := lt_big (by rw [sizeLine_eq] at h; omega)
/-- the items of the list of draws: the script's copy at q, the place, the number, the mode, the count -/
def StS (q : Addr) (n : Nat) (xs : List V) : Prop := ∃ i v m c : Int, xs = [.ref q, .int i, .int v, .int m, .int c] ∧ 0 ≤ i ∧ i ≤ (n : Int)
/-- the list of draws stands at st -/
def StAt (H : Hp) (st : Addr) : Prop := ∃ (q : Addr) (ns : List Int), ns.length ≤ 63 ∧ H q = some (.lst (ns.map V.int)) ∧ H st = some (.ext (lsat (StS q ns.length) st))
theorem StAt.mono {H H' : Hp} {st : Addr} (s : Same H H') (h : StAt H st) : StAt H' st := by
  obtain ⟨q, ns, z, h1, h2⟩ := h
  exact ⟨q, ns, z, s _ _ h1, s _ _ h2⟩
/-- what a draw does to the list itself -/
def sp_draw0 : Sp := fun vs H Q _ => ∃ (st q : Addr) (ns : List Int) (xs : List V) (many : Int), vs = [.ref st, .int many] ∧ ns.length ≤ 63 ∧ H q = some (.lst (ns.map V.int)) ∧ H st = some (.lst xs) ∧ StS q ns.length xs ∧ 0 < many ∧ many < BIG ∧
  ∀ (d : Int) (xs' : List V) (H' : Hp), H' st = some (.lst xs') → StS q ns.length xs' → (∀ b o, b ≠ st → H b = some o → H' b = some o) → 0 ≤ d → d < many → Q (.int d) H'
/-- a draw, as its users see it: some number from 0 to below many -/
def sp_draw : Sp := fun vs H Q _ => ∃ (st : Addr) (many : Int), vs = [.ref st, .int many] ∧ StAt H st ∧ 0 < many ∧ many < BIG ∧ ∀ (d : Int) (H' : Hp), Same H H' → 0 ≤ d → d < many → Q (.int d) H'
theorem draw_view {P : Program} {w : World} {K : PySem.W.Frag} {mg : Str → Option Value} {base : Heap} {k : Nat} {f : Addr} {fd : FuncData} (F : FnOk P w K mg base CX0 k f fd ["state", "many"] sp_draw0) : FnOk P w K mg base CX0 k f fd ["state", "many"] sp_draw := by
  refine fn_view F (fun vs H Q E h => ?_) fun vs H Q E h => ?_
  · obtain ⟨_, _, rfl, _⟩ := h; rfl
  · obtain ⟨st, many, rfl, ⟨q, ns, z, h1, h2⟩, m0, m1, k⟩ := h
    have nq : q ≠ st := ne_of h1 h2 nofun
    refine ⟨st, _, h2, fun xs sx => ⟨st, q, ns, xs, many, rfl, z, by rw [upd_ne nq]; exact h1, upd_same, sx, m0, m1, fun d xs' H' e1 e2 kp d0 d1 => ⟨xs', e2, e1, k d _ (fun b o e => ?_) d0 d1⟩⟩⟩
    by_cases hb : b = st
    · subst hb; rw [h2] at e; cases e; exact upd_same
    · rw [upd_ne hb]; exact kp b o hb (by rw [upd_ne hb]; exact e)
/-- state = [list(script), 0, 0, 0, 0] -/
def sp_state (K : PySem.W.Frag) : Sp := fun vs H Q _ => ∃ (a : Addr) (ns : List Int), vs = [.ref a] ∧ SqL K H a (ns.map V.int) ∧ ns.length ≤ 63 ∧ ∀ (st : Addr) (H' : Hp), Same H H' → StAt H' st → Q (.ref st) H'
def sp_state0 (K : PySem.W.Frag) : Sp := fun vs H Q _ => ∃ (a : Addr) (ns : List Int), vs = [.ref a] ∧ SqL K H a (ns.map V.int) ∧ ns.length ≤ 63 ∧
  ∀ (q st : Addr) (H' : Hp), Same H H' → H st = none → H' q = some (.lst (ns.map V.int)) → H' st = some (.lst [.ref q, .int 0, .int 0, .int 0, .int 0]) → Q (.ref st) H'
theorem state_seal {P : Program} {w : World} {K : PySem.W.Frag} {mg : Str → Option Value} {base : Heap} {k : Nat} {f : Addr} {fd : FuncData} (F : FnOk P w K mg base CX0 k f fd ["script"] (sp_state0 K)) : FnOk P w K mg base CX0 k f fd ["script"] (sp_state K) := by
  refine fn_seal F (fun vs H Q E h => ?_) fun vs H Q E h => ?_
  · obtain ⟨_, _, rfl, _⟩ := h; rfl
  · obtain ⟨a, ns, rfl, hS, z, k⟩ := h
    refine ⟨a, ns, rfl, hS, z, fun q st H' sm n0 e1 e2 => ⟨st, StS q ns.length, _, ⟨0, 0, 0, 0, rfl, Int.le_refl _, by omega⟩, e2, k st _ (fun b o e => ?_) ⟨q, ns, z, ?_, upd_same⟩⟩⟩
    · have : b ≠ st := fun z => by subst z; rw [n0] at e; cases e
      rw [upd_ne this]; exact sm _ _ e
    · have : q ≠ st := ne_of e1 e2 (by
        intro z
        have z1 : ns.map V.int = [.ref q, .int 0, .int 0, .int 0, .int 0] := by injection z
        cases ns with
        | nil => cases z1
        | cons n r => cases z1)
      rw [upd_ne this]; exact e1
theorem same_new {H : Hp} {p : Addr} {o : HO} (h : H p = none) : Same H (upd H p o) := fun b u q => by rw [upd_ne (ne_of_none q h)]; exact q
end TK
namespace TK
open PySem PySem.Spec PyProof.Rows L2
/-- a statement, then the rest, with a word of one's own between them -/
def tCutT (t u : TS) : TS := fun D σ H => ∃ Mid : L2.St → Hp → Prop, t { D with nx := Mid } σ H ∧ ∀ σ' H', Mid σ' H' → u D σ' H'
theorem pss_cutT {X : Cx} {st : Stmt} {rest : List Stmt} {t u : TS} (h1 : PS X st t) (h2 : PSs X rest u) : PSs X (st :: rest) (tCutT t u) := by
  refine ⟨fun pins s σ H D I h => ?_⟩
  obtain ⟨Mid, hm, hu⟩ := h
  refine wpAny_execs_cons (thn (h1.run pins s σ H { D with nx := Mid } I hm) fun f s1 q => ?_)
  cases f with
  | next =>
    obtain ⟨σ', H', I', q⟩ := q
    exact h2.run pins s1 σ' H' D I' (hu σ' H' q)
  | ret v => exact q
  | brk => exact q
  | cont => exact q
end TK
namespace TK
open PySem PySem.Spec PyProof.Rows L2
theorem cdiv_of {i j : Int} (h0 : 0 < j) (h1 : j < BIG) : CDivW i j := by
  have h2 : BIG ≤ 2 ^ 8000 := (Classical.choose_spec big_ex).2
  exact wide_div (b := 8000) h0 (by omega) (by decide) (by decide)
theorem cdiv_small {i j : Int} (h0 : 0 < j) (h1 : j < 2 ^ 63) : CDivW i j := cdiv_of h0 (lt_big h1)
end TK
namespace TK
open PySem PySem.Spec PyProof.Rows L2
theorem at_ints {ns : List Int} {i : Int} (h0 : 0 ≤ i) (h1 : i < (ns.length : Int)) : atI (ns.map V.int) i = some (.int (ns[i.toNat]'(by omega))) := by
  have e : i = ((i.toNat : Nat) : Int) := by omega
  have q : atI (ns.map V.int) ((i.toNat : Nat) : Int) = some (.int (ns[i.toNat]'(by omega))) := atI_nat (by rw [List.getElem?_map, List.getElem?_eq_getElem (show i.toNat < ns.length by omega)]; rfl)
  rw [← e] at q
  exact q
theorem emod_lt' {a b : Int} (h : 0 < b) : a % b < b := Int.emod_lt_of_pos a h
theorem emod_ge' {a b : Int} (h : 0 < b) : 0 ≤ a % b := Int.emod_nonneg a (by omega)
end TK
namespace TK
/-- a word at which the tactics stop -/
inductive Here (p : Prop) : Prop
  | mk (h : p)
  | no (h : False)
theorem Here.out {p : Prop} (h : Here p) : p := by
  cases h with
  | mk h => exact h
  | no h => exact h.elim
end TK
/-! Own toolkit, part b: texts, loops over them, small lists of texts. -/
namespace TK
open PySem PySem.Spec PyProof.Rows L2
/-! ### texts -/
theorem cps_app (x y : Str) : (x ++ y).cps.toList = x.cps.toList ++ y.cps.toList := by
  rw [PySem.Str.cps_append] <;> simp
theorem len_cps (x : Str) : x.length = x.cps.toList.length := by simp [Str.length]
theorem str_ext {x y : Str} (h : x.cps.toList = y.cps.toList) : x = y := by
  obtain ⟨a⟩ := x
  obtain ⟨b⟩ := y
  have e : a = b := by simpa using h
  rw [e]
theorem len_app (x y : Str) : (x ++ y).length = x.length + y.length := by
  rw [len_cps, cps_app, List.length_append, ← len_cps, ← len_cps]
theorem len_sign (c : Nat) : (⟨#[c]⟩ : Str).length = 1 := rfl
theorem inV_strs (x : Str) : ∀ ws : List Str, inV (.str x) (ws.map V.str) = decide (x ∈ ws)
  | [] => rfl
  | w :: ws => by
    have ih := inV_strs x ws
    unfold inV at ih ⊢
    rw [List.map_cons, List.any_cons, ih]
    show ((w == x) || decide (x ∈ ws)) = decide (x ∈ w :: ws)
    by_cases e : w = x
    · subst e; simp
    · simp [e, Ne.symm e]
theorem all_flat (ws : List Str) : (ws.map V.str).all flatV = true := by
  rw [List.all_eq_true]
  intro v hv
  obtain ⟨w, _, rfl⟩ := List.mem_map.mp hv
  rfl
/-- over the signs of a text -/
theorem for_str {x : Str} {g : TG} {tb : TS} {D : Ends} {σ : L2.St} {H : Hp} (Pv : Nat → L2.St → Hp → Prop) (h0 : Pv 0 σ H)
    (hs : ∀ i c σ H, x.cps[i]? = some c → Pv i σ H → g (.str ⟨#[c]⟩) σ H fun σ2 H2 => tb { D with nx := Pv (i + 1), ct := Pv (i + 1), bk := D.nx } σ2 H2) (hd : ∀ σ H, Pv x.cps.size σ H → D.nx σ H) :
    ∃ W : Nat → Nat → L2.St → Hp → Prop, (∃ m, W 0 m σ H) ∧ ∀ i m σ H, W i m σ H →
      ((Its x).stop i H ∧ D.nx σ H) ∨ ((Its x).go i H ∧ ∃ N : L2.St → Hp → Prop, (∀ σ' H', N σ' H' → ∃ m', m' < m ∧ W (i + 1) m' σ' H') ∧ ∀ v H', (Its x).yld i H v H' → g v σ H' fun σ2 H2 => tb { D with nx := N, ct := N, bk := D.nx } σ2 H2) := by
  refine ⟨fun i m σ H => m = x.cps.size - i ∧ i ≤ x.cps.size ∧ Pv i σ H, ⟨x.cps.size, by simp, Nat.zero_le _, h0⟩, ?_⟩
  rintro i m σ H ⟨rfl, hi, p⟩
  by_cases hlt : i < x.cps.size
  · refine .inr ⟨hlt, Pv (i + 1), fun σ' H' p' => ⟨x.cps.size - (i + 1), by omega, rfl, hlt, p'⟩, fun v H' y => ?_⟩
    obtain ⟨e, c, hc, e2⟩ := y
    subst e e2
    exact hs i c σ _ hc p
  · have e : i = x.cps.size := by omega
    subst e
    exact .inl ⟨Nat.le_refl _, hd σ H p⟩
theorem mem_cps {x : Str} {i c : Nat} (h : x.cps[i]? = some c) : c ∈ x.cps.toList := by
  obtain ⟨h1, h2⟩ := Array.getElem?_eq_some_iff.mp h
  rw [← h2]
  simp
theorem cps_at {x : Str} {i c : Nat} (h : x.cps[i]? = some c) : x.cps.toList[i]? = some c := by
  rw [← h]; simp
/-- a loop that leaves at the first sign that is not so: up to i all are so -/
theorem all_take {l : List Nat} {f : Nat → Bool} {i c : Nat} (h : l[i]? = some c) (ih : (l.take i).all f = true) (hc : f c = true) : (l.take (i + 1)).all f = true := by
  rw [List.take_add_one, List.all_append, ih, h]
  simpa using hc
theorem not_all {l : List Nat} {f : Nat → Bool} {i c : Nat} (h : l[i]? = some c) (hc : f c = false) : l.all f = false := by
  rw [List.all_eq_false]
  exact ⟨c, List.mem_of_getElem? h, by rw [hc]; decide⟩
/-- an item of a text at a number below its length -/
theorem at_str {z : Str} {i : Int} (h0 : 0 ≤ i) (h1 : i < (z.length : Int)) : ∃ c, atI z.cps.toList i = some c ∧ c ∈ z.cps.toList := by
  have hl : i.toNat < z.cps.toList.length := by rw [← len_cps]; omega
  refine ⟨z.cps.toList[i.toNat], ?_, List.getElem_mem hl⟩
  have q : atI z.cps.toList ((i.toNat : Nat) : Int) = some z.cps.toList[i.toNat] := atI_nat (List.getElem?_eq_getElem hl)
  rw [show ((i.toNat : Nat) : Int) = i by omega] at q
  exact q
theorem at_list {xs : List V} {i : Int} (h0 : 0 ≤ i) (h1 : i < (xs.length : Int)) : ∃ v, atI xs i = some v ∧ xs[i.toNat]? = some v ∧ v ∈ xs := by
  have hl : i.toNat < xs.length := by omega
  refine ⟨xs[i.toNat], ?_, List.getElem?_eq_getElem hl, List.getElem_mem hl⟩
  have q : atI xs ((i.toNat : Nat) : Int) = some xs[i.toNat] := atI_nat (List.getElem?_eq_getElem hl)
  rw [show ((i.toNat : Nat) : Int) = i by omega] at q
  exact q
theorem sIx_nat' (n d : Nat) (i : Int) (h : 0 ≤ i) : HT.sIx n d (some i) = min i.toNat n := by
  have := HT.sIx_nat n d i.toNat
  rw [show ((i.toNat : Nat) : Int) = i by omega] at this
  exact this
theorem cutS_to {z : Str} {i : Int} (h0 : 0 ≤ i) : (cutS z none (some i)).cps.toList = z.cps.toList.take i.toNat := by
  unfold cutS
  show List.take (HT.sIx z.length z.length (some i) - HT.sIx z.length 0 none) (List.drop (HT.sIx z.length 0 none) z.cps.toList) = _
  rw [HT.sIx_none, sIx_nat' _ _ _ h0, List.drop_zero, Nat.sub_zero, len_cps, ← List.take_eq_take_min]
theorem cutS_from {z : Str} {i : Int} (h0 : 0 ≤ i) : (cutS z (some i) none).cps.toList = z.cps.toList.drop i.toNat := by
  unfold cutS
  show List.take (HT.sIx z.length z.length none - HT.sIx z.length 0 (some i)) (List.drop (HT.sIx z.length 0 (some i)) z.cps.toList) = _
  rw [HT.sIx_none, sIx_nat' _ _ _ h0, len_cps]
  by_cases h : i.toNat ≤ z.cps.toList.length
  · rw [Nat.min_eq_left h]
    exact List.take_of_length_le (by rw [List.length_drop]; exact Nat.le_refl _)
  · rw [Nat.min_eq_right (by omega), List.drop_of_length_le (Nat.le_refl _), List.drop_of_length_le (by omega)]
    simp
end TK
namespace TK
open PySem PySem.Spec PyProof.Rows L2
/-- an item of a text or of a list, drawn -/
def sp_pick (K : PySem.W.Frag) : Sp := fun vs H Q _ => ∃ (st : Addr) (row : V), vs = [.ref st, row] ∧ StAt H st ∧
  ((∃ z : Str, row = .str z ∧ 0 < z.length ∧ z.length ≤ sizeLine ∧ ∀ (c : Nat) (H' : Hp), Same H H' → c ∈ z.cps.toList → Q (.str ⟨#[c]⟩) H') ∨
   (∃ (p : Addr) (xs : List V), row = .ref p ∧ H p = some (.lst xs) ∧ xs ≠ [] ∧ xs.length ≤ sizeLine ∧ ∀ (v : V) (H' : Hp), Same H H' → v ∈ xs → Q v H'))
end TK
namespace TK
open PySem PySem.Spec PyProof.Rows L2
theorem app_len {x y : Str} {n m : Nat} (h : x.length ≤ n) (h2 : y.length ≤ m) (h3 : n + m ≤ 16777216) : x.length + y.length ≤ sizeLine := by
  rw [sizeLine_eq]; omega
theorem sgn_app {x : Str} {c : Nat} {l : List Nat} (h : ∀ c ∈ x.cps.toList, c ∈ l) (hc : c ∈ l) : ∀ d ∈ (x ++ (⟨#[c]⟩ : Str)).cps.toList, d ∈ l := fun d hd => by
  rw [cps_app] at hd
  rcases List.mem_append.mp hd with e | e
  · exact h d e
  · have e : d ∈ [c] := e
    rw [List.mem_singleton.mp e]; exact hc
theorem line_le {n m : Nat} (h : n ≤ m) (h2 : m ≤ 16777216) : n ≤ sizeLine := by
  rw [sizeLine_eq]; omega
end TK
namespace TK
open PySem PySem.Spec PyProof.Rows L2
theorem cutS_lento {z : Str} {i : Int} (h0 : 0 ≤ i) : (cutS z none (some i)).length = min i.toNat z.length := by
  rw [len_cps, cutS_to h0, List.length_take, ← len_cps]
theorem cutS_lenfrom {z : Str} {i : Int} (h0 : 0 ≤ i) : (cutS z (some i) none).length = z.length - i.toNat := by
  rw [len_cps, cutS_from h0, List.length_drop, ← len_cps]
end TK
/-! Own toolkit, part h: what the program's top has left, told by names (a Hook with further yes-or-no facts). -/
namespace TK
open PySem PySem.Spec PyProof.Rows L2
section
variable {X : Cx} {x : Str} {v : V} {pos : Pos}
theorem pe_globE (hg : Gl X x) (h : ∃ u, X.mg x = some u ∧ RelV v u) (hd : (x == ("__debug__" : Str)) = false := by decide) : PE X (.Name x pos) (tC v) := by
  obtain ⟨u, e, r⟩ := h
  exact pe_glob hg e r hd
end
def fdNo : FuncData := PySem.W.fnOf "" "" { posonlyargs := [], args := [], vararg := none, kwonlyargs := [], kw_defaults := [], kwarg := none, defaults := [] } [] { kind := .function, names := [], isGenerator := false, isCoroutine := false } .none .none .none .none none .none .none
/-- the function object that stands there -/
def fdOf (K : PySem.W.Frag) (p : Str × Option Str) : FuncData := match K.lookup (He.fAd K p) with
  | some ⟨_, _, .func fd, _⟩ => fd
  | _ => fdNo
theorem fdOf_eq {K : PySem.W.Frag} {p : Str × Option Str} {x qual : Str} {a : Arguments} {b : List Stmt} {sc : Scope} {dvs : List V} {kws : List (Str × V)} {fd : FuncData} (F : FunD K x qual a b sc dvs kws (He.fAd K p) fd) : fdOf K p = fd := by
  obtain ⟨oc, od, dV, kV, doc, pm, an, cdv, ct, osl, e, lk, _⟩ := F.ex
  unfold fdOf
  rw [lk]
abbrev Ex : Type := List (PySem.W.Frag → Bool)
def exB (ex : Ex) (K : PySem.W.Frag) : Bool := ex.all fun e => e K
abbrev AlM : Type := He.AlD × Bool
def obsM (n : Nat) (fa : List He.Fa) (fn : List He.DefD) (ex : Ex) (g : Addr → Option Obj) : AlM := (He.obsD fa fn (He.frG g (He.asD g n)), exB ex (He.frG g (He.asD g n)))
def hookM (n : Nat) (fa : List He.Fa) (fn : List He.DefD) (ex : Ex) : PySem.W.Hook where
  α := AlM
  obs := fun s => obsM n fa fn ex s.heap.get?
  val := fun _ => (He.valD fn, true)
  says := fun _ h => ∃ K : PySem.W.Frag, K.In h ∧ He.SaysD fa fn K ∧ exB ex K = true
  of := fun _ _ e => ⟨_, He.frG_in, congrArg (fun z : AlM => z.1) e, congrArg (fun z : AlM => z.2) e⟩
  keeps := fun _ _ _ ⟨K, hK, c⟩ k => ⟨K, PySem.W.Frag.In.keeps hK k, c⟩
theorem obsM_eq {n : Nat} {fa : List He.Fa} {fn : List He.DefD} {ex : Ex} {g : Addr → Option Obj} {s : Shared} (h : ∀ a, g a = s.heap.get? a) : obsM n fa fn ex g = (hookM n fa fn ex).obs s := by
  have e : g = s.heap.get? := funext h
  rw [e] <;> rfl
/-- what is known of the written part -/
structure Facts (fa : List He.Fa) (fn : List He.DefD) (ex : Ex) (K : PySem.W.Frag) (mg : Str → Option Value) : Prop where
  heap : ∃ h : Heap, K.In h ∧ h.Ns mainGlobals mg
  says : He.SaysD fa fn K
  more : exB ex K = true
section
variable {fa : List He.Fa} {fn : List He.DefD} {ex : Ex} {K : PySem.W.Frag} {mg : Str → Option Value} (T : Facts fa fn ex K mg)
include T
theorem Facts.glo (i : Nat) (x : Str) (h : fa[i]? = some (.glo x) := by rfl) : mg x = some (.ref (He.ga K x)) := by
  obtain ⟨hp, X, G⟩ := T.heap
  exact He.glo_ok X G (T.says.fact i h)
theorem Facts.free (i : Nat) (x : Str) (h : fa[i]? = some (.free x) := by rfl) : mg x = none := by
  obtain ⟨hp, X, G⟩ := T.heap
  exact He.free_ok X G (T.says.fact i h)
theorem Facts.int (i : Nat) (x : Str) (n : Int) (h : fa[i]? = some (.int x n) := by rfl) : ∃ u, mg x = some u ∧ RelV (.int n) u := by
  obtain ⟨hp, X, G⟩ := T.heap
  obtain ⟨t, e⟩ := He.int_ok X G (T.says.fact i h)
  exact ⟨_, e, t, rfl⟩
theorem Facts.str (i : Nat) (x z : Str) (h : fa[i]? = some (.str x z) := by rfl) : ∃ u, mg x = some u ∧ RelV (.str z) u := by
  obtain ⟨hp, X, G⟩ := T.heap
  obtain ⟨t, e⟩ := He.str_ok X G (T.says.fact i h)
  exact ⟨_, e, t, rfl⟩
theorem Facts.obj (i : Nat) (x : Str) (h : fa[i]? = some (.glo x) := by rfl) : ∃ u, mg x = some u ∧ RelV (.ref (He.ga K x)) u := ⟨_, T.glo i x h, rfl⟩
theorem Facts.exf (i : Nat) (e : PySem.W.Frag → Bool) (h : ex[i]? = some e := by rfl) : e K = true :=
  List.all_eq_true.mp (show ex.all (fun e => e K) = true from T.more) e (List.mem_of_getElem? h)
theorem Facts.cls (i : Nat) (x : Str) (h : fa[i]? = some (.cls x) := by rfl) : Cls K (He.ga K x) := He.cls_ok (T.says.fact i h)
theorem Facts.noat (i : Nat) (x f : Str) (h : fa[i]? = some (.noat x f) := by rfl) : NoAttr K (He.ga K x) f := He.noat_ok (T.says.fact i h)
theorem Facts.meth (i : Nat) (x m : Str) (h : fa[i]? = some (.meth x m) := by rfl) : Meth K (He.ga K x) m (He.ma K (He.ga K x) m) := He.meth_ok (T.says.fact i h)
theorem Facts.mkr (i : Nat) (x : Str) (h : fa[i]? = some (.mkr x) := by rfl) : Mk K (He.ga K x) (He.ma K (He.ga K x) "__init__") := He.mkr_ok (T.says.fact i h)
theorem Facts.fun_ (i : Nat) (d : He.DefD) (h : fn[i]? = some d := by rfl) : FunD K d.name d.qual d.params d.body d.scope (d.dvs K) (d.kws K) (He.fAd K d.at_) (fdOf K d.at_) := by
  obtain ⟨fd, F⟩ := T.says.def_ i h
  rw [fdOf_eq F]
  exact F
end
/-- the law's row from the head's run (as the guide's smallest head with facts), the law's promise given by facts -/
theorem row_by {l : PySem.W.OpenLaw} {i : Nat} {fa : List He.Fa} {fn : List He.DefD} {ex : Ex} {d : DefRec} {k : Nat} {q : Program} {loose : List Str} {XP : (Str → Option Value) → Heap → Prop} {sp : PySem.W.Frag → Sp} {f : PySem.W.Frag → Addr} {fd : PySem.W.Frag → FuncData}
    (hn : l.most = some 63) (hdf : d.params.defaults = []) (hr : Room k callerA) (hdn : d.name = ("law" : Str))
    (hf : ∀ K mg, Facts fa fn ex K mg → mg ("law" : Str) = some (.ref (f K)))
    (hb : ∀ K mg, Facts fa fn ex K mg → ∀ (s : Shared) (u : Value), BindsTo s (fd K) ⟨[u], []⟩ [("script", u)])
    (hsp : ∀ (K : PySem.W.Frag) (H : Hp) (a : Addr) (ns : List Int), ns.length ≤ 63 → Only H → SqL K H a (ns.map V.int) → sp K [.ref a] H (fun v _ => v = .bl true) fun _ _ _ => False)
    (hF : ∀ (w : World) K mg base, Facts fa fn ex K mg → FnOk l.prog w K mg base CX0 k (f K) (fd K) ["script"] (sp K)) :
    PySem.W.WalkO q loose XP (hookM i fa fn ex).says l.row.toRowW d [] (fun f vs => PySem.call f vs) := by
  refine L2.walk_ofE (l := l) (n := 63) (k := k) (x := "script") (CX := L2.CX0) hn (by decide) hdf hr ?F (fun _ _ _ _ z => z)
  intro w mg fa' h Y G hmg0
  obtain ⟨K, KX, c, cx⟩ := Y
  have T : Facts fa fn ex K mg := ⟨⟨h, KX, G⟩, c, cx⟩
  rw [hdn, hf K mg T] at hmg0
  cases hmg0
  exact ⟨K, fd K, sp K, KX, hb K mg T, hsp K, fun base _ _ => hF w K mg base T⟩
end TK
/-! Own toolkit, part m: tactics for readings. -/
local macro_rules | `(tactic| walk_at "ne") => `(tactic| first | assumption | (apply Ne.symm; assumption) | (refine L2.ne_of (by assumption) (by assumption) nofun) | (refine L2.ne_of_none (by assumption) (by assumption)) | (refine Ne.symm (L2.ne_of_none (by assumption) (by assumption))))
local macro_rules | `(tactic| walk_at "hp") => `(tactic| first | exact L2.upd_same | assumption | (refine Eq.trans (L2.upd_ne (by walk_at "ne")) (by walk_at "hp")))
local macro_rules | `(tactic| walk_at "sq") => `(tactic| first | assumption | (refine L2.SqL.of (by walk_at "hp")) | (refine L2.SqT.of (by walk_at "hp")))
local macro_rules | `(tactic| walk_at "ix") => `(tactic| first | rfl | assumption)
local macro_rules | `(tactic| walk_at "cd") => `(tactic| first | assumption | decide | omega | (dsimp only; omega) | exact Or.inr ⟨by decide, by decide⟩ | exact Or.inl ⟨by omega, by omega⟩ | exact TK.cdiv_of (by omega) (by assumption) | exact TK.cdiv_small (by omega) (by omega) | exact TK.lt_big (by omega) | exact TK.line_big (by assumption) | exact ⟨by decide, by decide, by decide⟩ | exact Nat.le_of_ble_eq_true rfl)
local macro_rules | `(tactic| walk_at "fl") => `(tactic| first | rfl | exact TK.all_flat _ | assumption)
local macro_rules | `(tactic| walk_at "sta") => `(tactic| first | assumption | exact TK.StAt.mono (by assumption) (by assumption))
local macro_rules | `(tactic| walk_at "r1") => `(tactic| first
  | refine ⟨_, rfl, ?_⟩
  | refine ⟨rfl, ?_⟩
  | refine ⟨_, _, rfl, rfl, by walk_at "cd", ?_⟩
  | refine ⟨_, _, rfl, rfl, ?_⟩
  | refine .inl ⟨_, rfl, ?_⟩
  | refine .inl ⟨_, _, rfl, rfl, ?_⟩
  | refine .inl ⟨_, _, _, _, rfl, rfl, by walk_at "sq", by walk_at "ix", ?_⟩
  | refine .inr (.inl ⟨_, _, _, _, rfl, rfl, by walk_at "sq", by walk_at "ix", ?_⟩)
  | refine .inr (.inr ⟨_, _, _, rfl, rfl, by walk_at "cd", by walk_at "ix", ?_⟩)
  | refine ⟨_, _, _, _, rfl, rfl, by walk_at "hp", by walk_at "ix", ?_⟩
  | refine .inr ⟨_, _, rfl, .inl (by walk_at "sq"), ?_⟩
  | refine .inr ⟨_, _, rfl, .inr (by walk_at "sq"), ?_⟩
  | refine .inr (.inl ⟨_, _, rfl, rfl, by walk_at "cd", ?_⟩)
  | refine .inr (.inr (.inl ⟨_, _, _, _, rfl, rfl, by walk_at "hp", by walk_at "hp", by walk_at "cd", ?_⟩))
  | refine .inr ⟨_, _, rfl, .inl (by walk_at "sq"), rfl, by walk_at "fl", ?_⟩
  | refine .inr ⟨_, _, rfl, .inr (by walk_at "sq"), rfl, by walk_at "fl", ?_⟩
  | refine ⟨_, _, rfl, by walk_at "sta", .inl ⟨_, rfl, by walk_at "cd", by walk_at "cd", ?_⟩⟩
  | refine ⟨_, _, rfl, by walk_at "sta", .inr ⟨_, _, rfl, by walk_at "hp", by walk_at "cd", by walk_at "cd", ?_⟩⟩
  | refine ⟨⟨_, by walk_at "sq"⟩, ?_⟩
  | refine And.intro (by walk_at "cd") ?_
  | refine ⟨_, _, rfl, by walk_at "sta", by walk_at "cd", by walk_at "cd", ?_⟩
  | refine L2.iteT ?_
  | refine L2.iteF ?_)
local macro_rules | `(tactic| walk_at "rd") => `(tactic| repeat (walk_at "r1"))
namespace K00
open PySem PySem.Spec PyProof.Rows L2 TK
def top (i : Nat) : Stmt := PySem.Challenge.pw_takenorelse_k00_names_of_letters.main.body.getD i (.Pass ⟨0, 0, 0, 0⟩)
abbrev s_is_name : Stmt := top 4
theorem sc_is_name : FnScope ["text", "char"] ["text"] (defScope s_is_name) := ⟨rfl, rfl, rfl, by decide +kernel, rfl, by decide +kernel, by decide +kernel⟩
abbrev at_is_name : Str × Option Str := ("is_name", none)
def d_is_name : He.DefD := ⟨at_is_name, "is_name", "is_name", defArgs s_is_name, defBody s_is_name, defScope s_is_name, [], []⟩
abbrev s_law_state : Stmt := top 6
theorem sc_law_state : FnScope ["script"] ["script"] (defScope s_law_state) := ⟨rfl, rfl, rfl, by decide +kernel, rfl, by decide +kernel, by decide +kernel⟩
abbrev at_law_state : Str × Option Str := ("_law_state", none)
def d_law_state : He.DefD := ⟨at_law_state, "_law_state", "_law_state", defArgs s_law_state, defBody s_law_state, defScope s_law_state, [], []⟩
abbrev s_law_draw : Stmt := top 7
theorem sc_law_draw : FnScope ["state", "many", "digit", "first", "second", "third"] ["state", "many"] (defScope s_law_draw) := ⟨rfl, rfl, rfl, by decide +kernel, rfl, by decide +kernel, by decide +kernel⟩
abbrev at_law_draw : Str × Option Str := ("_law_draw", none)
def d_law_draw : He.DefD := ⟨at_law_draw, "_law_draw", "_law_draw", defArgs s_law_draw, defBody s_law_draw, defScope s_law_draw, [], []⟩
abbrev s_law_pick : Stmt := top 8
theorem sc_law_pick : FnScope ["state", "row"] ["state", "row"] (defScope s_law_pick) := ⟨rfl, rfl, rfl, by decide +kernel, rfl, by decide +kernel, by decide +kernel⟩
abbrev at_law_pick : Str × Option Str := ("_law_pick", none)
def d_law_pick : He.DefD := ⟨at_law_pick, "_law_pick", "_law_pick", defArgs s_law_pick, defBody s_law_pick, defScope s_law_pick, [], []⟩
abbrev s_law_is_int : Stmt := top 9
theorem sc_law_is_int : FnScope ["thing"] ["thing"] (defScope s_law_is_int) := ⟨rfl, rfl, rfl, by decide +kernel, rfl, by decide +kernel, by decide +kernel⟩
abbrev at_law_is_int : Str × Option Str := ("_law_is_int", none)
def d_law_is_int : He.DefD := ⟨at_law_is_int, "_law_is_int", "_law_is_int", defArgs s_law_is_int, defBody s_law_is_int, defScope s_law_is_int, [], []⟩
abbrev s_law_same : Stmt := top 10
theorem sc_law_same : FnScope ["actual", "due", "key", "k"] ["actual", "due"] (defScope s_law_same) := ⟨rfl, rfl, rfl, by decide +kernel, rfl, by decide +kernel, by decide +kernel⟩
abbrev at_law_same : Str × Option Str := ("_law_same", none)
def d_law_same : He.DefD := ⟨at_law_same, "_law_same", "_law_same", defArgs s_law_same, defBody s_law_same, defScope s_law_same, [], []⟩
abbrev s_law_reserved : Stmt := top 11
theorem sc_law_reserved : FnScope ["words"] [] (defScope s_law_reserved) := ⟨rfl, rfl, rfl, by decide +kernel, rfl, by decide +kernel, by decide +kernel⟩
abbrev at_law_reserved : Str × Option Str := ("_law_reserved", none)
def d_law_reserved : He.DefD := ⟨at_law_reserved, "_law_reserved", "_law_reserved", defArgs s_law_reserved, defBody s_law_reserved, defScope s_law_reserved, [], []⟩
abbrev s_law_word : Stmt := top 12
theorem sc_law_word : FnScope ["state", "size", "letters", "word", "code", "k"] ["state", "size"] (defScope s_law_word) := ⟨rfl, rfl, rfl, by decide +kernel, rfl, by decide +kernel, by decide +kernel⟩
abbrev at_law_word : Str × Option Str := ("_law_word", none)
def d_law_word : He.DefD := ⟨at_law_word, "_law_word", "_law_word", defArgs s_law_word, defBody s_law_word, defScope s_law_word, [], []⟩
abbrev s_law_spoiled : Stmt := top 13
theorem sc_law_spoiled : FnScope ["state", "word", "others", "result", "k", "spot"] ["state", "word"] (defScope s_law_spoiled) := ⟨rfl, rfl, rfl, by decide +kernel, rfl, by decide +kernel, by decide +kernel⟩
abbrev at_law_spoiled : Str × Option Str := ("_law_spoiled", none)
def d_law_spoiled : He.DefD := ⟨at_law_spoiled, "_law_spoiled", "_law_spoiled", defArgs s_law_spoiled, defBody s_law_spoiled, defScope s_law_spoiled, [], []⟩
abbrev s_law_due : Stmt := top 14
theorem sc_law_due : FnScope ["word", "letters", "char"] ["word"] (defScope s_law_due) := ⟨rfl, rfl, rfl, by decide +kernel, rfl, by decide +kernel, by decide +kernel⟩
abbrev at_law_due : Str × Option Str := ("_law_due", none)
def d_law_due : He.DefD := ⟨at_law_due, "_law_due", "_law_due", defArgs s_law_due, defBody s_law_due, defScope s_law_due, [], []⟩
abbrev s_law : Stmt := top 15
theorem sc_law : FnScope ["script", "state", "letters", "words", "size", "word"] ["script"] (defScope s_law) := ⟨rfl, rfl, rfl, by decide +kernel, rfl, by decide +kernel, by decide +kernel⟩
abbrev at_law : Str × Option Str := ("law", none)
def d_law : He.DefD := ⟨at_law, "law", "law", defArgs s_law, defBody s_law, defScope s_law, [], []⟩
def c_RESERVED : List Str := ["always", "never", "and", "or", "not", "when", "add", "set", "change", "tell", "refuse", "take", "look", "free", "lock", "keep", "keys", "fields"]
def x_RESERVED : PySem.W.Frag → Bool := fun K => He.tupB K "RESERVED" (c_RESERVED.map He.Dv.str)
def fn : List He.DefD := [d_is_name, d_law_state, d_law_draw, d_law_pick, d_law_is_int, d_law_same, d_law_reserved, d_law_word, d_law_spoiled, d_law_due, d_law]
def fa : List He.Fa := [.glo "is_name", .glo "_law_state", .glo "_law_draw", .glo "_law_pick", .glo "_law_is_int", .glo "_law_same", .glo "_law_reserved", .glo "_law_word", .glo "_law_spoiled", .glo "_law_due", .glo "law", .free "len", .free "isinstance", .free "range", .free "list", .free "int", .str "LETTERS" "abcdefghijklmnopqrstuvwxyz", .glo "RESERVED", .int "NAME_LENGTH" 12]
def ex : Ex := [x_RESERVED]
abbrev Tx (K : PySem.W.Frag) (mg : Str → Option Value) : Prop := Facts fa fn ex K mg
section
variable {K : PySem.W.Frag} {mg : Str → Option Value}
theorem Tx.F_is_name (T : Tx K mg) : FunD K "is_name" "is_name" (defArgs s_is_name) (defBody s_is_name) (defScope s_is_name) [] [] (He.fAd K at_is_name) (fdOf K at_is_name) := Facts.fun_ T 0 d_is_name
theorem Tx.b_is_name (T : Tx K mg) : Binds K (fdOf K at_is_name) ["text"] [] := T.F_is_name.bindsN (ps := ["text"]) fun _ _ _ _ _ _ us hl => match us, hl with | [_], _ => rfl
theorem Tx.m_is_name (T : Tx K mg) : mg "is_name" = some (.ref (He.fAd K at_is_name)) := Facts.glo T 0 "is_name"
theorem Tx.F_law_state (T : Tx K mg) : FunD K "_law_state" "_law_state" (defArgs s_law_state) (defBody s_law_state) (defScope s_law_state) [] [] (He.fAd K at_law_state) (fdOf K at_law_state) := Facts.fun_ T 1 d_law_state
theorem Tx.b_law_state (T : Tx K mg) : Binds K (fdOf K at_law_state) ["script"] [] := T.F_law_state.bindsN (ps := ["script"]) fun _ _ _ _ _ _ us hl => match us, hl with | [_], _ => rfl
theorem Tx.m_law_state (T : Tx K mg) : mg "_law_state" = some (.ref (He.fAd K at_law_state)) := Facts.glo T 1 "_law_state"
theorem Tx.F_law_draw (T : Tx K mg) : FunD K "_law_draw" "_law_draw" (defArgs s_law_draw) (defBody s_law_draw) (defScope s_law_draw) [] [] (He.fAd K at_law_draw) (fdOf K at_law_draw) := Facts.fun_ T 2 d_law_draw
theorem Tx.b_law_draw (T : Tx K mg) : Binds K (fdOf K at_law_draw) ["state", "many"] [] := T.F_law_draw.bindsN (ps := ["state", "many"]) fun _ _ _ _ _ _ us hl => match us, hl with | [_, _], _ => rfl
theorem Tx.m_law_draw (T : Tx K mg) : mg "_law_draw" = some (.ref (He.fAd K at_law_draw)) := Facts.glo T 2 "_law_draw"
theorem Tx.F_law_pick (T : Tx K mg) : FunD K "_law_pick" "_law_pick" (defArgs s_law_pick) (defBody s_law_pick) (defScope s_law_pick) [] [] (He.fAd K at_law_pick) (fdOf K at_law_pick) := Facts.fun_ T 3 d_law_pick
theorem Tx.b_law_pick (T : Tx K mg) : Binds K (fdOf K at_law_pick) ["state", "row"] [] := T.F_law_pick.bindsN (ps := ["state", "row"]) fun _ _ _ _ _ _ us hl => match us, hl with | [_, _], _ => rfl
theorem Tx.m_law_pick (T : Tx K mg) : mg "_law_pick" = some (.ref (He.fAd K at_law_pick)) := Facts.glo T 3 "_law_pick"
theorem Tx.F_law_is_int (T : Tx K mg) : FunD K "_law_is_int" "_law_is_int" (defArgs s_law_is_int) (defBody s_law_is_int) (defScope s_law_is_int) [] [] (He.fAd K at_law_is_int) (fdOf K at_law_is_int) := Facts.fun_ T 4 d_law_is_int
theorem Tx.b_law_is_int (T : Tx K mg) : Binds K (fdOf K at_law_is_int) ["thing"] [] := T.F_law_is_int.bindsN (ps := ["thing"]) fun _ _ _ _ _ _ us hl => match us, hl with | [_], _ => rfl
theorem Tx.m_law_is_int (T : Tx K mg) : mg "_law_is_int" = some (.ref (He.fAd K at_law_is_int)) := Facts.glo T 4 "_law_is_int"
theorem Tx.F_law_same (T : Tx K mg) : FunD K "_law_same" "_law_same" (defArgs s_law_same) (defBody s_law_same) (defScope s_law_same) [] [] (He.fAd K at_law_same) (fdOf K at_law_same) := Facts.fun_ T 5 d_law_same
theorem Tx.b_law_same (T : Tx K mg) : Binds K (fdOf K at_law_same) ["actual", "due"] [] := T.F_law_same.bindsN (ps := ["actual", "due"]) fun _ _ _ _ _ _ us hl => match us, hl with | [_, _], _ => rfl
theorem Tx.m_law_same (T : Tx K mg) : mg "_law_same" = some (.ref (He.fAd K at_law_same)) := Facts.glo T 5 "_law_same"
theorem Tx.F_law_reserved (T : Tx K mg) : FunD K "_law_reserved" "_law_reserved" (defArgs s_law_reserved) (defBody s_law_reserved) (defScope s_law_reserved) [] [] (He.fAd K at_law_reserved) (fdOf K at_law_reserved) := Facts.fun_ T 6 d_law_reserved
theorem Tx.b_law_reserved (T : Tx K mg) : Binds K (fdOf K at_law_reserved) [] [] := T.F_law_reserved.bindsN (ps := []) fun _ _ _ _ _ _ us hl => match us, hl with | [], _ => rfl
theorem Tx.m_law_reserved (T : Tx K mg) : mg "_law_reserved" = some (.ref (He.fAd K at_law_reserved)) := Facts.glo T 6 "_law_reserved"
theorem Tx.F_law_word (T : Tx K mg) : FunD K "_law_word" "_law_word" (defArgs s_law_word) (defBody s_law_word) (defScope s_law_word) [] [] (He.fAd K at_law_word) (fdOf K at_law_word) := Facts.fun_ T 7 d_law_word
theorem Tx.b_law_word (T : Tx K mg) : Binds K (fdOf K at_law_word) ["state", "size"] [] := T.F_law_word.bindsN (ps := ["state", "size"]) fun _ _ _ _ _ _ us hl => match us, hl with | [_, _], _ => rfl
theorem Tx.m_law_word (T : Tx K mg) : mg "_law_word" = some (.ref (He.fAd K at_law_word)) := Facts.glo T 7 "_law_word"
theorem Tx.F_law_spoiled (T : Tx K mg) : FunD K "_law_spoiled" "_law_spoiled" (defArgs s_law_spoiled) (defBody s_law_spoiled) (defScope s_law_spoiled) [] [] (He.fAd K at_law_spoiled) (fdOf K at_law_spoiled) := Facts.fun_ T 8 d_law_spoiled
theorem Tx.b_law_spoiled (T : Tx K mg) : Binds K (fdOf K at_law_spoiled) ["state", "word"] [] := T.F_law_spoiled.bindsN (ps := ["state", "word"]) fun _ _ _ _ _ _ us hl => match us, hl with | [_, _], _ => rfl
theorem Tx.m_law_spoiled (T : Tx K mg) : mg "_law_spoiled" = some (.ref (He.fAd K at_law_spoiled)) := Facts.glo T 8 "_law_spoiled"
theorem Tx.F_law_due (T : Tx K mg) : FunD K "_law_due" "_law_due" (defArgs s_law_due) (defBody s_law_due) (defScope s_law_due) [] [] (He.fAd K at_law_due) (fdOf K at_law_due) := Facts.fun_ T 9 d_law_due
theorem Tx.b_law_due (T : Tx K mg) : Binds K (fdOf K at_law_due) ["word"] [] := T.F_law_due.bindsN (ps := ["word"]) fun _ _ _ _ _ _ us hl => match us, hl with | [_], _ => rfl
theorem Tx.m_law_due (T : Tx K mg) : mg "_law_due" = some (.ref (He.fAd K at_law_due)) := Facts.glo T 9 "_law_due"
theorem Tx.F_law (T : Tx K mg) : FunD K "law" "law" (defArgs s_law) (defBody s_law) (defScope s_law) [] [] (He.fAd K at_law) (fdOf K at_law) := Facts.fun_ T 10 d_law
theorem Tx.b_law (T : Tx K mg) : Binds K (fdOf K at_law) ["script"] [] := T.F_law.bindsN (ps := ["script"]) fun _ _ _ _ _ _ us hl => match us, hl with | [_], _ => rfl
theorem Tx.m_law (T : Tx K mg) : mg "law" = some (.ref (He.fAd K at_law)) := Facts.glo T 10 "law"
theorem Tx.z_len (T : Tx K mg) : mg "len" = none := Facts.free T 11 "len"
theorem Tx.z_isinstance (T : Tx K mg) : mg "isinstance" = none := Facts.free T 12 "isinstance"
theorem Tx.z_range (T : Tx K mg) : mg "range" = none := Facts.free T 13 "range"
theorem Tx.z_list (T : Tx K mg) : mg "list" = none := Facts.free T 14 "list"
theorem Tx.z_int (T : Tx K mg) : mg "int" = none := Facts.free T 15 "int"
theorem Tx.g_LETTERS (T : Tx K mg) : ∃ u, mg "LETTERS" = some u ∧ RelV (.str "abcdefghijklmnopqrstuvwxyz") u := Facts.str T 16 "LETTERS" "abcdefghijklmnopqrstuvwxyz"
theorem Tx.g_RESERVED (T : Tx K mg) : ∃ u, mg "RESERVED" = some u ∧ RelV (.ref (He.ga K "RESERVED")) u := Facts.obj T 17 "RESERVED"
theorem Tx.t_RESERVED (T : Tx K mg) (H : Hp) : SqT K H (He.ga K "RESERVED") (c_RESERVED.map V.str) := He.tupB_ok (x := "RESERVED") (vs := c_RESERVED.map He.Dv.str) (Facts.exf T 0 x_RESERVED) H
theorem Tx.g_NAME_LENGTH (T : Tx K mg) : ∃ u, mg "NAME_LENGTH" = some u ∧ RelV (.int 12) u := Facts.int T 18 "NAME_LENGTH" 12
end
end K00
namespace K00
open PySem PySem.Spec PyProof.Rows L2 TK
section
variable {P : Program} {w : World} {K : PySem.W.Frag} {mg : Str → Option Value} {base : Heap}
theorem ok_law_state (T : Tx K mg) : FnOk P w K mg base CX0 1 (He.fAd K at_law_state) (fdOf K at_law_state) ["script"] (sp_state K) := by
  refine state_seal (T.F_law_state.ok sc_law_state (fun vs H Q E h => ?_) (fun cdv A outer s H vs Q E hr h => ?_))
  · obtain ⟨a, ns, rfl, _⟩ := h
    rfl
  obtain ⟨a, ns, rfl, hS, hl, k⟩ := h
  refine ⟨_, PSs.nox (pss_one (ps_ret (pe_lst (pa_cons (pe_callTy call_list_of (by rfl) T.z_list (by decide +kernel) (pa_cons (pv 0) pa_nil)) (pa_cons pe_int (pa_cons pe_int (pa_cons pe_int (pa_cons pe_int pa_nil)))))))), ?_⟩
  refine ⟨_, rfl, a, _, rfl, .inl hS, fun q nq => ?_⟩
  refine ⟨Nat.le_of_ble_eq_true rfl, fun st nst => ?_⟩
  have nqs : q ≠ st := ne_of_none upd_same nst
  refine k q st _ ((same_new nq).trans (same_new nst)) ((same_new nq).free nst) (by walk_at "hp") upd_same
theorem ok_law_draw (T : Tx K mg) : FnOk P w K mg base CX0 1 (He.fAd K at_law_draw) (fdOf K at_law_draw) ["state", "many"] sp_draw := by
  refine draw_view (T.F_law_draw.ok sc_law_draw (fun vs H Q E h => ?_) (fun cdv A outer s H vs Q E hr h => ?_))
  · obtain ⟨_, _, _, _, _, rfl, _⟩ := h
    rfl
  obtain ⟨st, q, ns, xs, many, rfl, hl, hq, hst, ⟨i, v, m, c, rfl, h0, h1⟩, m0, m1, k⟩ := h
  refine ⟨_, PSs.nox (pss_cutT (ps_if (pt_cmpR op_eqA (pe_ix ix_A (pv 0) pe_int (fun _ _ => rfl)) pe_int (nomark _))
     (pss_cons (ps_if (pt_cmpR op_ge (pe_ix ix_A (pv 0) pe_int (fun _ _ => rfl)) (pe_callB call_lenA (by rfl) T.z_len PySem.boot_len (pa_cons (pe_ix ix_A (pv 0) pe_int (fun _ _ => rfl)) pa_nil)) (nomark _))
      (pss_one (ps_ret pe_int))
      pss_nil)
     (pss_cons (ps_asg (pe_callTy call_int1 (by rfl) T.z_int (by decide +kernel) (pa_cons (pe_ix ix_A (pe_ix ix_A (pv 0) pe_int (fun _ _ => rfl)) (pe_ix ix_A (pv 0) pe_int (fun _ _ => rfl)) (fun _ _ => rfl)) pa_nil)) (pg_sub (pv 0) pe_int set_A))
     (pss_cons (ps_asg (pe_op op_addA (pe_ix ix_A (pv 0) pe_int (fun _ _ => rfl)) pe_int) (pg_sub (pv 0) pe_int set_A))
     (pss_cons (ps_asg pe_int (pg_sub (pv 0) pe_int set_A))
     (pss_cons (ps_asg pe_int (pg_sub (pv 0) pe_int set_A))
     (pss_one (ps_if (pt_cmpR op_ltA (pe_ix ix_A (pv 0) pe_int (fun _ _ => rfl)) (pe_op op_pow pe_int pe_int) (nomark _))
      (pss_one (ps_asg pe_int (pg_sub (pv 0) pe_int set_A)))
      pss_nil)))))))
     pss_nil)
    (pss_cons (ps_asg (pe_op op_addA (pe_ix ix_A (pv 0) pe_int (fun _ _ => rfl)) pe_int) (pg_sub (pv 0) pe_int set_A))
    (pss_cons (ps_if (pt_cmpR op_eqA (pe_ix ix_A (pv 0) pe_int (fun _ _ => rfl)) pe_int (nomark _))
     (pss_cons (ps_set (i := 2) sc_law_draw.nd rfl (.inl rfl) (pe_op op_mod (pe_callTy call_int1 (by rfl) T.z_int (by decide +kernel) (pa_cons (pe_ix ix_A (pv 0) pe_int (fun _ _ => rfl)) pa_nil)) (pv 1)))
     (pss_cons (ps_asg (pe_op op_fdivW (pe_callTy call_int1 (by rfl) T.z_int (by decide +kernel) (pa_cons (pe_ix ix_A (pv 0) pe_int (fun _ _ => rfl)) pa_nil)) (pv 1)) (pg_sub (pv 0) pe_int set_A))
     (pss_cons (ps_if (PW.pt (pw_or (pt_cmpR op_eqA (pe_ix ix_A (pv 0) pe_int (fun _ _ => rfl)) pe_int (nomark _)) (pw_or1 (pt_cmpR op_ge (pe_ix ix_A (pv 0) pe_int (fun _ _ => rfl)) pe_int (nomark _)))))
      (pss_one (ps_asg pe_int (pg_sub (pv 0) pe_int set_A)))
      pss_nil)
     (pss_one (ps_ret (pv 2))))))
     pss_nil)
    (pss_cons (ps_set (i := 3) sc_law_draw.nd rfl (.inl rfl) (pe_op op_mod (pe_callTy call_int1 (by rfl) T.z_int (by decide +kernel) (pa_cons (pe_op op_addA (pe_op op_mulA (pe_ix ix_A (pv 0) pe_int (fun _ _ => rfl)) pe_int) (pe_op op_mulA (pe_ix ix_A (pv 0) pe_int (fun _ _ => rfl)) pe_int)) pa_nil)) pe_int))
    (pss_cons (ps_set (i := 4) sc_law_draw.nd rfl (.inl rfl) (pe_op op_mod (pe_callTy call_int1 (by rfl) T.z_int (by decide +kernel) (pa_cons (pe_op op_addA (pe_op op_addA (pe_op op_mulA (pv 3) (pv 3)) (pe_op op_mulA (pe_ix ix_A (pv 0) pe_int (fun _ _ => rfl)) pe_int)) pe_int) pa_nil)) pe_int))
    (pss_cutT (ps_if (pt_cmpR op_ge (pe_ix ix_A (pv 0) pe_int (fun _ _ => rfl)) pe_int (nomark _))
     (pss_one (ps_asg pe_int (pg_sub (pv 0) pe_int set_A)))
     pss_nil)
    (pss_cons (ps_set (i := 5) sc_law_draw.nd rfl (.inl rfl) (pe_op op_mod (pe_callTy call_int1 (by rfl) T.z_int (by decide +kernel) (pa_cons (pe_op op_addA (pe_op op_mulA (pv 4) pe_int) (pv 3)) pa_nil)) pe_int))
    (pss_one (ps_ret (pe_op op_mod (pe_callTy call_int1 (by rfl) T.z_int (by decide +kernel) (pa_cons (pv 5) pa_nil)) (pv 1))))))))))), ?_⟩
  have nq : q ≠ st := fun e => by
    subst e
    rw [hq] at hst
    injection hst with e
    injection e with e
    cases ns with
    | nil => cases e
    | cons n r => cases e
  dsimp only [cxOf, Cx.nox, Cx.wish, L2.start, List.map, List.length, List.replicate, List.append]
  refine ⟨fun σ H' => Here (∃ i v m c, σ = [some (.ref st), some (.int many), none, none, none, none] ∧ H' st = some (.lst [.ref q, .int i, .int v, .int m, .int c]) ∧ 0 ≤ i ∧ i ≤ (ns.length : Int) ∧ (∀ b o, b ≠ st → H b = some o → H' b = some o)), ?_, fun σ H' hM => ?_⟩
  · walk_at "rd"
    refine ite2 (fun e => ?_) (fun e => ?_)
    · walk_at "rd"
      refine ite2 (fun e => ?_) (fun e => ?_)
      · exact k 0 _ _ hst ⟨i, v, m, c, rfl, h0, h1⟩ (fun _ _ _ e => e) (Int.le_refl _) m0
      · have hi : i < (ns.length : Int) := by
          have q := of_decide_eq_false (Bool.eq_false_iff.mpr e)
          rw [List.length_map] at q
          omega
        have hx := at_ints h0 hi
        walk_at "rd"
        refine ite2 (fun e => ?_) (fun e => ?_)
        · walk_at "rd"
          exact .mk ⟨_, _, _, _, rfl, upd_same, by omega, by omega, fun b o nb e => by rw [upd_upd, upd_upd, upd_upd, upd_upd, upd_ne nb]; exact e⟩
        · exact .mk ⟨_, _, _, _, rfl, upd_same, by omega, by omega, fun b o nb e => by rw [upd_upd, upd_upd, upd_upd, upd_ne nb]; exact e⟩
    · exact .mk ⟨i, v, m, c, rfl, hst, h0, h1, fun _ _ _ e => e⟩
  · obtain ⟨i, v, m, c, rfl, hst, h0, h1, kp⟩ := hM.out
    walk_at "rd"
    refine ite2 (fun e => ?_) (fun e => ?_)
    · walk_at "rd"
      refine ite2 (fun e => ?_) (fun e => ?_)
      · refine iteT ?_
        walk_at "rd"
        exact k _ _ _ upd_same ⟨i, _, _, _, rfl, h0, h1⟩ (fun b o nb e => by rw [upd_upd, upd_upd, upd_ne nb]; exact kp b o nb e) (emod_ge' m0) (emod_lt' m0)
      · walk_at "rd"
        refine ite2 (fun e => ?_) (fun e => ?_)
        · walk_at "rd"
          exact k _ _ _ upd_same ⟨i, _, _, _, rfl, h0, h1⟩ (fun b o nb e => by rw [upd_upd, upd_upd, upd_ne nb]; exact kp b o nb e) (emod_ge' m0) (emod_lt' m0)
        · walk_at "rd"
          exact k _ _ _ upd_same ⟨i, _, _, _, rfl, h0, h1⟩ (fun b o nb e => by rw [upd_upd, upd_ne nb]; exact kp b o nb e) (emod_ge' m0) (emod_lt' m0)
    · walk_at "rd"
      refine ⟨fun σ H' => Here (∃ i v m c x y, σ = [some (.ref st), some (.int many), none, some (.int x), some (.int y), none] ∧ 0 ≤ y ∧ y < 2147483399 ∧ H' st = some (.lst [.ref q, .int i, .int v, .int m, .int c]) ∧ 0 ≤ i ∧ i ≤ (ns.length : Int) ∧ (∀ b o, b ≠ st → H b = some o → H' b = some o)), ?_, fun σ H' hM => ?_⟩
      · walk_at "rd"
        refine ite2 (fun e => ?_) (fun e => ?_)
        · walk_at "rd"
          exact .mk ⟨_, _, _, _, _, _, rfl, emod_ge' (by decide), emod_lt' (by decide), upd_same, h0, h1, fun b o nb e => by rw [upd_upd, upd_ne nb]; exact kp b o nb e⟩
        · exact .mk ⟨_, _, _, _, _, _, rfl, emod_ge' (by decide), emod_lt' (by decide), upd_same, h0, h1, fun b o nb e => by rw [upd_ne nb]; exact kp b o nb e⟩
      · obtain ⟨i, v, m, c, x, y, rfl, hy0, hy1, hst, h0, h1, kp⟩ := hM.out
        walk_at "rd"
        exact k _ _ _ hst ⟨i, _, _, _, rfl, h0, h1⟩ kp (emod_ge' m0) (emod_lt' m0)
end
end K00
namespace K00
open PySem PySem.Spec PyProof.Rows L2 TK
abbrev letters : Str := "abcdefghijklmnopqrstuvwxyz"
/-- what is_name tells -/
def isName (x : Str) : Bool :=
  if decide (V.str x = V.str "") = true then false else if decide ((12 : Int) < (x.length : Int)) = true then false else if inV (.str x) (c_RESERVED.map V.str) = true then false else x.cps.toList.all fun c => decide (c ∈ letters.cps.toList)
def sp_is_name : Sp := fun vs H Q _ => ∃ x : Str, vs = [.str x] ∧ x.length ≤ sizeLine ∧ Q (.bl (isName x)) H
section
variable {P : Program} {w : World} {K : PySem.W.Frag} {mg : Str → Option Value} {base : Heap}
theorem ok_is_name (T : Tx K mg) : FnOk P w K mg base CX0 1 (He.fAd K at_is_name) (fdOf K at_is_name) ["text"] sp_is_name := by
  refine T.F_is_name.ok sc_is_name (fun vs H Q E h => ?_) (fun cdv A outer s H vs Q E hr h => ?_)
  · obtain ⟨_, rfl, _⟩ := h
    rfl
  obtain ⟨x, rfl, hl, k⟩ := h
  refine ⟨_, PSs.nox (pss_cons (ps_if (PW.pt (pw_or (pt_cmpR op_eqA (pv 0) pe_str (nomark _)) (pw_or (pt_cmpR op_gt (pe_callB call_lenA (by rfl) T.z_len PySem.boot_len (pa_cons (pv 0) pa_nil)) (pe_globE (by rfl) T.g_NAME_LENGTH) (nomark _)) (pw_or1 (pt_cmpR op_inA (pv 0) (pe_globE (by rfl) T.g_RESERVED) (by rfl))))))
     (pss_one (ps_ret pe_bl))
     pss_nil)
    (pss_cons (ps_for PassesOwn.never rfl (pi_str (pv 0)) (pg_name (i := 1) sc_is_name.nd rfl (.inl rfl))
     (pss_one (ps_if (pt_cmpR op_ninA (pv 1) (pe_globE (by rfl) T.g_LETTERS) (by rfl))
      (pss_one (ps_ret pe_bl))
      pss_nil)))
    (pss_one (ps_ret pe_bl)))), ?_⟩
  have tR := T.t_RESERVED H
  dsimp only [cxOf, Cx.nox, Cx.wish, L2.start, List.map, List.length, List.replicate, List.append]
  walk_at "rd"
  refine ite2 (fun e1 => ?_) (fun e1 => ?_)
  · walk_at "rd"
    have z : isName x = false := by rw [isName, if_pos e1]
    rw [z] at k
    exact k
  walk_at "rd"
  refine ite2 (fun e2 => ?_) (fun e2 => ?_)
  · walk_at "rd"
    have z : isName x = false := by rw [isName, if_neg e1, if_pos e2]
    rw [z] at k
    exact k
  walk_at "rd"
  refine ite2 (fun e3 => ?_) (fun e3 => ?_)
  · walk_at "rd"
    have z : isName x = false := by rw [isName, if_neg e1, if_neg e2, if_pos e3]
    rw [z] at k
    exact k
  walk_at "rd"
  have z : isName x = x.cps.toList.all fun c => decide (c ∈ letters.cps.toList) := by rw [isName, if_neg e1, if_neg e2, if_neg e3]
  refine for_str (fun i σ H' => Here (∃ c, σ = [some (.str x), c] ∧ H' = H ∧ (x.cps.toList.take i).all (fun c => decide (c ∈ letters.cps.toList)) = true)) (.mk ⟨none, rfl, rfl, rfl⟩) (fun i c σ H' hc p => ?_) (fun σ H' p => ?_)
  · obtain ⟨_, rfl, rfl, pa⟩ := p.out
    walk_at "rd"
    refine ite2 (fun e => ?_) (fun e => ?_)
    · walk_at "rd"
      rw [z, not_all (cps_at hc) (by simpa using e)] at k
      exact k
    · exact .mk ⟨_, rfl, rfl, all_take (cps_at hc) pa (by simpa using e)⟩
  · obtain ⟨_, rfl, rfl, pa⟩ := p.out
    walk_at "rd"
    rw [z] at k
    have : x.cps.toList.take x.cps.size = x.cps.toList := by rw [← Array.length_toList, List.take_length]
    rw [this] at pa
    rw [pa] at k
    exact k
end
end K00
namespace K00
open PySem PySem.Spec PyProof.Rows L2 TK
def reserved : List Str := ["always", "never", "and", "or", "not", "when", "add", "set", "change", "tell", "refuse", "take", "look", "free", "lock", "keep", "keys", "fields"]
def sp_reserved : Sp := fun vs H Q _ => vs = [] ∧ ∀ p H', Same H H' → H' p = some (.lst (reserved.map V.str)) → Q (.ref p) H'
/-- a word of small letters of a given length -/
def sp_word : Sp := fun vs H Q _ => ∃ (st : Addr) (n : Nat), vs = [.ref st, .int n] ∧ StAt H st ∧ n ≤ 1000 ∧ ∀ (x : Str) (H' : Hp), Same H H' → x.length = n → (∀ c ∈ x.cps.toList, c ∈ letters.cps.toList) → Q (.str x) H'
def sp_spoiled : Sp := fun vs H Q _ => ∃ (st : Addr) (x : Str), vs = [.ref st, .str x] ∧ StAt H st ∧ x.length ≤ 1000 ∧ ∀ (y : Str) (H' : Hp), Same H H' → y.length ≤ x.length + 3 → Q (.str y) H'
abbrev others : Str := " !\"#$&'()*+,-./0123456789:;<=>?@ABCDEFGHIJKLMNOPQRSTUVWXYZ[\\]^_`{|}~"
section
variable {P : Program} {w : World} {K : PySem.W.Frag} {mg : Str → Option Value} {base : Heap}
theorem ok_law_pick (T : Tx K mg) : FnOk P w K mg base CX0 2 (He.fAd K at_law_pick) (fdOf K at_law_pick) ["state", "row"] (sp_pick K) := by
  have G_law_draw := ok_law_draw (P := P) (w := w) (base := base) T
  refine T.F_law_pick.ok sc_law_pick (fun vs H Q E h => ?_) (fun cdv A outer s H vs Q E hr h => ?_)
  · obtain ⟨_, _, rfl, _⟩ := h
    rfl
  obtain ⟨st, row, rfl, hst, h⟩ := h
  refine ⟨_, PSs.nox (pss_one (ps_ret (pe_ix ix_A (pv 1) (pe_call G_law_draw (hr.mono (by decide)) (by rfl) T.m_law_draw T.F_law_draw.kp T.b_law_draw .nil pass0 (pa_cons (pv 0) (pa_cons (pe_callB call_lenA (by rfl) T.z_len PySem.boot_len (pa_cons (pv 1) pa_nil)) pa_nil))) (fun _ _ => rfl)))), ?_⟩
  dsimp only [cxOf, Cx.nox, Cx.wish, L2.start, List.map, List.length, List.replicate, List.append]
  rcases h with ⟨z, rfl, z0, z1, k⟩ | ⟨p, xs, rfl, hp, z0, z1, k⟩
  · have hb := line_big z1
    walk_at "rd"
    intro d H1 s1 d0 d1
    obtain ⟨c, e, m⟩ := at_str d0 d1
    exact .inr (.inr ⟨z, d, c, rfl, rfl, z1, e, k c H1 s1 m⟩)
  · have hb := line_big z1
    have hl : 0 < xs.length := List.length_pos_iff.mpr z0
    walk_at "rd"
    intro d H1 s1 d0 d1
    obtain ⟨v, e, _, m⟩ := at_list d0 d1
    exact .inl ⟨p, xs, d, v, rfl, rfl, SqL.of (s1 _ _ hp), e, k v H1 s1 m⟩

theorem ok_law_reserved (T : Tx K mg) : FnOk P w K mg base CX0 1 (He.fAd K at_law_reserved) (fdOf K at_law_reserved) [] sp_reserved := by
  refine T.F_law_reserved.ok sc_law_reserved (fun vs H Q E h => ?_) (fun cdv A outer s H vs Q E hr h => ?_)
  · obtain ⟨rfl, _⟩ := h
    rfl
  obtain ⟨rfl, k⟩ := h
  refine ⟨_, PSs.nox (pss_cons (ps_set (i := 0) sc_law_reserved.nd rfl (.inl rfl) (pe_lst (pa_cons pe_str (pa_cons pe_str (pa_cons pe_str (pa_cons pe_str (pa_cons pe_str (pa_cons pe_str (pa_cons pe_str (pa_cons pe_str (pa_cons pe_str (pa_cons pe_str (pa_cons pe_str (pa_cons pe_str pa_nil))))))))))))))
    (pss_one (ps_ret (pe_op op_addA (pv 0) (pe_lst (pa_cons pe_str (pa_cons pe_str (pa_cons pe_str (pa_cons pe_str (pa_cons pe_str (pa_cons pe_str pa_nil))))))))))), ?_⟩
  refine ⟨Nat.le_of_ble_eq_true rfl, fun p np => ?_⟩
  walk_at "rd"
  intro q nq
  have npq : p ≠ q := ne_of_none upd_same nq
  refine .inr (.inr (.inl ⟨p, q, _, _, rfl, rfl, by walk_at "hp", upd_same, Nat.le_of_ble_eq_true rfl, fun r nr => ?_⟩))
  exact k r _ ((same_new np).trans ((same_new nq).trans (same_new nr))) upd_same
theorem ok_law_word (T : Tx K mg) : FnOk P w K mg base CX0 2 (He.fAd K at_law_word) (fdOf K at_law_word) ["state", "size"] sp_word := by
  have G_law_draw := ok_law_draw (P := P) (w := w) (base := base) T
  refine T.F_law_word.ok sc_law_word (fun vs H Q E h => ?_) (fun cdv A outer s H vs Q E hr h => ?_)
  · obtain ⟨_, _, rfl, _⟩ := h
    rfl
  obtain ⟨st, n, rfl, hst, hn, k⟩ := h
  refine ⟨_, PSs.nox (pss_cons (ps_set (i := 2) sc_law_word.nd rfl (.inl rfl) pe_str)
    (pss_cons (ps_set (i := 3) sc_law_word.nd rfl (.inl rfl) pe_str)
    (pss_cons (ps_set (i := 4) sc_law_word.nd rfl (.inl rfl) pe_int)
    (pss_cons (ps_for PassesOwn.never rfl (pi_range1 rfl T.z_range (pa_cons (pv 1) pa_nil)) (pg_name (i := 5) sc_law_word.nd rfl (.inl rfl))
     (pss_cutT (ps_if (pt_cmpR op_eqA (pe_op op_mod (pv 5) pe_int) pe_int (nomark _))
      (pss_one (ps_set (i := 4) sc_law_word.nd rfl (.inl rfl) (pe_call G_law_draw (hr.mono (by decide)) (by rfl) T.m_law_draw T.F_law_draw.kp T.b_law_draw .nil pass0 (pa_cons (pv 0) (pa_cons pe_int pa_nil)))))
      pss_nil)
     (pss_cons (ps_set (i := 3) sc_law_word.nd rfl (.inl rfl) (pe_op op_addA (pv 3) (pe_ix ix_A (pv 2) (pe_op op_mod (pe_callTy call_int1 (by rfl) T.z_int (by decide +kernel) (pa_cons (pv 4) pa_nil)) pe_int) (fun _ _ => rfl))))
     (pss_one (ps_set (i := 4) sc_law_word.nd rfl (.inl rfl) (pe_op op_fdivW (pe_callTy call_int1 (by rfl) T.z_int (by decide +kernel) (pa_cons (pv 4) pa_nil)) pe_int))))))
    (pss_one (ps_ret (pv 3))))))), ?_⟩
  dsimp only [cxOf, Cx.nox, Cx.wish, L2.start, List.map, List.length, List.replicate, List.append]
  walk_at "rd"
  refine for_range (fun i σ H' => Here (∃ (x : Str) (c : Int) (o : Option V), σ = [some (.ref st), some (.int n), some (.str letters), some (.str x), some (.int c), o] ∧ Same H H' ∧ x.length = i ∧ ∀ c ∈ x.cps.toList, c ∈ letters.cps.toList))
    (.mk ⟨"", 0, none, rfl, Same.refl _, rfl, fun c hc => by cases hc⟩) (fun i σ H' hi p => ?_) (fun σ H' p => ?_)
  · obtain ⟨x, c, o, rfl, s1, hx, hc⟩ := p.out
    refine ⟨fun σ H' => Here (∃ c o, σ = [some (.ref st), some (.int n), some (.str letters), some (.str x), some (.int c), o] ∧ Same H H'), ?_, fun σ H' hM => ?_⟩
    · walk_at "rd"
      refine ite2 (fun e => ?_) (fun e => ?_)
      · walk_at "rd"
        intro d H1 s2 d0 d1
        exact .mk ⟨d, _, rfl, s1.trans s2⟩
      · exact .mk ⟨c, _, rfl, s1⟩
    · obtain ⟨c, o, rfl, s1⟩ := hM.out
      obtain ⟨ch, ech, mch⟩ := at_str (z := letters) (i := c % 26) (emod_ge' (by decide)) (emod_lt' (by decide))
      have hz : x.length + (⟨#[ch]⟩ : Str).length ≤ sizeLine := app_len (m := 1) (Nat.le_refl _) (Nat.le_refl _) (by omega)
      walk_at "rd"
      exact .mk ⟨_, _, _, rfl, s1, by rw [len_app, hx]; rfl, sgn_app hc mch⟩
  · obtain ⟨x, c, o, rfl, s1, hx, hc⟩ := p.out
    walk_at "rd"
    exact k x H' s1 (by omega) hc
theorem ok_law_spoiled (T : Tx K mg) : FnOk P w K mg base CX0 3 (He.fAd K at_law_spoiled) (fdOf K at_law_spoiled) ["state", "word"] sp_spoiled := by
  have G_law_draw := ok_law_draw (P := P) (w := w) (base := base) T
  have G_law_pick := ok_law_pick (P := P) (w := w) (base := base) T
  refine T.F_law_spoiled.ok sc_law_spoiled (fun vs H Q E h => ?_) (fun cdv A outer s H vs Q E hr h => ?_)
  · obtain ⟨_, _, rfl, _⟩ := h
    rfl
  obtain ⟨st, x, rfl, hst, hn, k⟩ := h
  refine ⟨_, PSs.nox (pss_cons (ps_set (i := 2) sc_law_spoiled.nd rfl (.inl rfl) pe_str)
    (pss_cons (ps_set (i := 3) sc_law_spoiled.nd rfl (.inl rfl) (pv 1))
    (pss_cons (ps_for PassesOwn.never rfl (pi_range1 rfl T.z_range (pa_cons (pe_op op_addA pe_int (pe_call G_law_draw (hr.mono (by decide)) (by rfl) T.m_law_draw T.F_law_draw.kp T.b_law_draw .nil pass0 (pa_cons (pv 0) (pa_cons pe_int pa_nil)))) pa_nil)) (pg_name (i := 4) sc_law_spoiled.nd rfl (.inl rfl))
     (pss_cons (ps_set (i := 5) sc_law_spoiled.nd rfl (.inl rfl) (pe_call G_law_draw (hr.mono (by decide)) (by rfl) T.m_law_draw T.F_law_draw.kp T.b_law_draw .nil pass0 (pa_cons (pv 0) (pa_cons (pe_op op_addA (pe_callB call_lenA (by rfl) T.z_len PySem.boot_len (pa_cons (pv 3) pa_nil)) pe_int) pa_nil))))
     (pss_one (ps_set (i := 3) sc_law_spoiled.nd rfl (.inl rfl) (pe_op op_addA (pe_op op_addA (pe_slice sl_A (pv 3) po_none (po_some (pv 5))) (pe_call G_law_pick (hr.mono (by decide)) (by rfl) T.m_law_pick T.F_law_pick.kp T.b_law_pick .nil pass0 (pa_cons (pv 0) (pa_cons (pv 2) pa_nil)))) (pe_slice sl_A (pv 3) (po_some (pe_op op_addA (pv 5) pe_int)) po_none))))))
    (pss_one (ps_ret (pv 3)))))), ?_⟩
  dsimp only [cxOf, Cx.nox, Cx.wish, L2.start, List.map, List.length, List.replicate, List.append]
  walk_at "rd"
  intro d H1 s1 d0 d1
  walk_at "rd"
  refine for_range (fun i σ H' => Here (∃ (y : Str) (o o' : Option V), σ = [some (.ref st), some (.str x), some (.str others), some (.str y), o, o'] ∧ Same H H' ∧ y.length ≤ x.length + i))
    (.mk ⟨x, none, none, rfl, s1, Nat.le_refl _⟩) (fun i σ H' hi p => ?_) (fun σ H' p => ?_)
  · obtain ⟨y, o, o', rfl, s1, hy⟩ := p.out
    have hst := hst.mono s1
    have hyl : y.length ≤ sizeLine := line_le (m := 2000) (by omega) (by decide)
    have hb : ((y.length : Nat) : Int) + 1 < BIG := lt_big (by omega)
    walk_at "rd"
    intro d H2 s2 d0 d1
    have hst := hst.mono s2
    have z1 : 0 < others.length := by decide
    walk_at "rd"
    intro c H3 s3 hc
    have l1 : (cutS y none (some d)).length ≤ y.length := cutS_length _ _ _
    have l2 : (cutS y (some (d + 1)) none).length ≤ y.length := cutS_length _ _ _
    have q1 : (cutS y none (some d)).length + (⟨#[c]⟩ : Str).length ≤ sizeLine := app_len (n := 2000) (m := 1) (by omega) (Nat.le_refl _) (by decide)
    have q2 : (cutS y none (some d) ++ (⟨#[c]⟩ : Str)).length + (cutS y (some (d + 1)) none).length ≤ sizeLine := app_len (n := 2001) (m := 2000) (by rw [len_app]; have : (⟨#[c]⟩ : Str).length = 1 := rfl; omega) (by omega) (by decide)
    walk_at "rd"
    exact .mk ⟨_, _, _, rfl, (s1.trans s2).trans s3, by
      rw [len_app, len_app, cutS_lento d0, cutS_lenfrom (by omega)]
      have : (⟨#[c]⟩ : Str).length = 1 := rfl
      omega⟩
  · obtain ⟨y, o, o', rfl, s1, hy⟩ := p.out
    walk_at "rd"
    exact k y H' s1 (by omega)
/-- what the law says of a word -/
def dueName (x : Str) : Bool :=
  if inV (.str x) (reserved.map V.str) = true then false else if decide ((x.length : Int) < 1) = true then false else if decide ((12 : Int) < (x.length : Int)) = true then false else x.cps.toList.all fun c => decide (c ∈ letters.cps.toList)
def sp_due : Sp := fun vs H Q _ => ∃ x : Str, vs = [.str x] ∧ x.length ≤ sizeLine ∧ ∀ H', Same H H' → Q (.bl (dueName x)) H'
theorem ok_law_due (T : Tx K mg) : FnOk P w K mg base CX0 2 (He.fAd K at_law_due) (fdOf K at_law_due) ["word"] sp_due := by
  have G_law_reserved := ok_law_reserved (P := P) (w := w) (base := base) T
  refine T.F_law_due.ok sc_law_due (fun vs H Q E h => ?_) (fun cdv A outer s H vs Q E hr h => ?_)
  · obtain ⟨_, rfl, _⟩ := h
    rfl
  obtain ⟨x, rfl, hl, k⟩ := h
  refine ⟨_, PSs.nox (pss_cons (ps_set (i := 1) sc_law_due.nd rfl (.inl rfl) pe_str)
    (pss_cons (ps_if (PW.pt (pw_or (pt_cmpR op_inA (pv 0) (pe_call0 G_law_reserved (hr.mono (by decide)) (by rfl) T.m_law_reserved T.F_law_reserved.kp T.b_law_reserved .nil pass0) (by rfl)) (pw_or (pt_cmpR op_ltA (pe_callB call_lenA (by rfl) T.z_len PySem.boot_len (pa_cons (pv 0) pa_nil)) pe_int (nomark _)) (pw_or1 (pt_cmpR op_gt (pe_callB call_lenA (by rfl) T.z_len PySem.boot_len (pa_cons (pv 0) pa_nil)) pe_int (nomark _))))))
     (pss_one (ps_ret pe_bl))
     pss_nil)
    (pss_cons (ps_for PassesOwn.never rfl (pi_str (pv 0)) (pg_name (i := 2) sc_law_due.nd rfl (.inl rfl))
     (pss_one (ps_if (pt_cmpR op_ninA (pv 2) (pv 1) (by rfl))
      (pss_one (ps_ret pe_bl))
      pss_nil)))
    (pss_one (ps_ret pe_bl))))), ?_⟩
  dsimp only [cxOf, Cx.nox, Cx.wish, L2.start, List.map, List.length, List.replicate, List.append]
  walk_at "rd"
  intro p H1 s1 hp
  walk_at "rd"
  refine ite2 (fun e1 => ?_) (fun e1 => ?_)
  · walk_at "rd"
    have z : dueName x = false := by rw [dueName, if_pos e1]
    rw [← z]
    exact k H1 s1
  walk_at "rd"
  refine ite2 (fun e2 => ?_) (fun e2 => ?_)
  · walk_at "rd"
    have z : dueName x = false := by rw [dueName, if_neg e1, if_pos e2]
    rw [← z]
    exact k H1 s1
  walk_at "rd"
  refine ite2 (fun e3 => ?_) (fun e3 => ?_)
  · walk_at "rd"
    have z : dueName x = false := by rw [dueName, if_neg e1, if_neg e2, if_pos e3]
    rw [← z]
    exact k H1 s1
  walk_at "rd"
  have z : dueName x = x.cps.toList.all fun c => decide (c ∈ letters.cps.toList) := by rw [dueName, if_neg e1, if_neg e2, if_neg e3]
  refine for_str (fun i σ H' => Here (∃ c, σ = [some (.str x), some (.str letters), c] ∧ H' = H1 ∧ (x.cps.toList.take i).all (fun c => decide (c ∈ letters.cps.toList)) = true)) (.mk ⟨none, rfl, rfl, rfl⟩) (fun i c σ H' hc p => ?_) (fun σ H' p => ?_)
  · obtain ⟨_, rfl, rfl, pa⟩ := p.out
    walk_at "rd"
    refine ite2 (fun e => ?_) (fun e => ?_)
    · walk_at "rd"
      rw [← show dueName x = false by rw [z, not_all (cps_at hc) (by simpa using e)]]
      exact k _ s1
    · exact .mk ⟨_, rfl, rfl, all_take (cps_at hc) pa (by simpa using e)⟩
  · obtain ⟨_, rfl, rfl, pa⟩ := p.out
    walk_at "rd"
    have e : x.cps.toList.take x.cps.size = x.cps.toList := by rw [← Array.length_toList, List.take_length]
    rw [e] at pa
    rw [← show dueName x = true by rw [z, pa]]
    exact k _ s1
def sp_sameB : Sp := fun vs H Q _ => ∃ a b : Bool, vs = [.bl a, .bl b] ∧ Q (.bl (decide (V.bl a = V.bl b))) H
theorem ok_law_same (T : Tx K mg) : FnOk P w K mg base CX0 1 (He.fAd K at_law_same) (fdOf K at_law_same) ["actual", "due"] sp_sameB := by
  refine T.F_law_same.ok sc_law_same (fun vs H Q E h => ?_) (fun cdv A outer s H vs Q E hr h => ?_)
  · obtain ⟨_, _, rfl, _⟩ := h
    rfl
  obtain ⟨a, b, rfl, k⟩ := h
  refine ⟨_, PSs.nox (pss_cons (ps_if (pt_cmpR op_isN (pv 1) pe_non (nomark _))
     (pss_one (ps_ret (pe_cmpR op_isN (pv 0) pe_non (nomark _))))
     pss_nil)
    (pss_cons (ps_if (pt_cmpR op_isA (pv 1) pe_bl (nomark _))
     (pss_one (ps_ret (pe_cmpR op_isA (pv 0) pe_bl (nomark _))))
     pss_nil)
    (pss_cons (ps_if (pt_cmpR op_isA (pv 1) pe_bl (nomark _))
     (pss_one (ps_ret (pe_cmpR op_isA (pv 0) pe_bl (nomark _))))
     pss_nil)
    pss_never))), ?_⟩
  dsimp only [cxOf, Cx.nox, Cx.wish, L2.start, List.map, List.length, List.replicate, List.append]
  cases b with
  | true =>
    walk_at "rd"
    exact k
  | false =>
    walk_at "rd"
    exact k
end
end K00
namespace K00
open PySem PySem.Spec PyProof.Rows L2 TK
theorem name_due (x : Str) : isName x = dueName x := by
  have e0 : decide (V.str x = V.str "") = decide ((x.length : Int) < 1) := by
    rw [Bool.eq_iff_iff, decide_eq_true_iff, decide_eq_true_iff]
    constructor
    · intro h
      have : x = "" := V.str.inj h
      subst this
      decide
    · intro h
      have : x = "" := str_ext (by
        have e : x.cps.toList.length = 0 := by rw [← len_cps]; omega
        rw [List.length_eq_zero_iff.mp e]
        rfl)
      rw [this]
  have e1 : c_RESERVED = reserved := rfl
  unfold isName dueName
  rw [e0, e1]
  by_cases h1 : decide ((x.length : Int) < 1) = true
  · rw [if_pos h1, if_pos h1, ite_self]
  · rw [if_neg h1, if_neg h1]
    by_cases h2 : decide ((12 : Int) < (x.length : Int)) = true
    · rw [if_pos h2, if_pos h2, ite_self]
    · rw [if_neg h2, if_neg h2]
def sp_law (K : PySem.W.Frag) : Sp := fun vs H Q _ => ∃ (a : Addr) (ns : List Int), vs = [.ref a] ∧ SqL K H a (ns.map V.int) ∧ ns.length ≤ 63 ∧ ∀ H', Q (.bl true) H'
theorem law_pre (K : PySem.W.Frag) (H : Hp) (a : Addr) (ns : List Int) (hl : ns.length ≤ 63) (_ : Only H) (hS : SqL K H a (ns.map V.int)) : sp_law K [.ref a] H (fun v _ => v = .bl true) fun _ _ _ => False := ⟨a, ns, rfl, hS, hl, fun _ => rfl⟩
section
variable {P : Program} {w : World} {K : PySem.W.Frag} {mg : Str → Option Value} {base : Heap}
theorem ok_law (T : Tx K mg) : FnOk P w K mg base CX0 4 (He.fAd K at_law) (fdOf K at_law) ["script"] (sp_law K) := by
  have G_law_state := ok_law_state (P := P) (w := w) (base := base) T
  have G_law_pick := ok_law_pick (P := P) (w := w) (base := base) T
  have G_law_word := ok_law_word (P := P) (w := w) (base := base) T
  have G_law_spoiled := ok_law_spoiled (P := P) (w := w) (base := base) T
  have G_law_reserved := ok_law_reserved (P := P) (w := w) (base := base) T
  have G_law_same := ok_law_same (P := P) (w := w) (base := base) T
  have G_is_name := ok_is_name (P := P) (w := w) (base := base) T
  have G_law_due := ok_law_due (P := P) (w := w) (base := base) T
  refine T.F_law.ok sc_law (fun vs H Q E h => ?_) (fun cdv A outer s H vs Q E hr h => ?_)
  · obtain ⟨_, _, rfl, _⟩ := h
    rfl
  obtain ⟨a, ns, rfl, hS, hl, k⟩ := h
  refine ⟨_, PSs.nox (pss_cons (ps_set (i := 1) sc_law.nd rfl (.inl rfl) (pe_call G_law_state (hr.mono (by decide)) (by rfl) T.m_law_state T.F_law_state.kp T.b_law_state .nil pass0 (pa_cons (pv 0) pa_nil)))
    (pss_cons (ps_set (i := 2) sc_law.nd rfl (.inl rfl) pe_str)
    (pss_cons (ps_set (i := 3) sc_law.nd rfl (.inl rfl) (pe_lst pa_nil))
    (pss_cons (ps_for PassesOwn.never rfl (pi_range1 rfl T.z_range (pa_cons pe_int pa_nil)) (pg_name (i := 4) sc_law.nd rfl (.inl rfl))
     (pss_cons (ps_set (i := 5) sc_law.nd rfl (.inl rfl) (pe_call G_law_word (hr.mono (by decide)) (by rfl) T.m_law_word T.F_law_word.kp T.b_law_word .nil pass0 (pa_cons (pv 1) (pa_cons (pv 4) pa_nil))))
     (pss_one (ps_set (i := 3) sc_law.nd rfl (.inl rfl) (pe_op op_addA (pv 3) (pe_lst (pa_cons (pv 5) (pa_cons (pe_call G_law_spoiled (hr.mono (by decide)) (by rfl) T.m_law_spoiled T.F_law_spoiled.kp T.b_law_spoiled .nil pass0 (pa_cons (pv 1) (pa_cons (pv 5) pa_nil))) pa_nil))))))))
    (pss_cons (ps_for PassesOwn.never rfl (pi_list (pe_call0 G_law_reserved (hr.mono (by decide)) (by rfl) T.m_law_reserved T.F_law_reserved.kp T.b_law_reserved .nil pass0)) (pg_name (i := 5) sc_law.nd rfl (.inl rfl))
     (pss_one (ps_set (i := 3) sc_law.nd rfl (.inl rfl) (pe_op op_addA (pv 3) (pe_lst (pa_cons (pv 5) (pa_cons (pe_slice sl_A (pv 5) po_none (po_some (pe_un un_neg pe_int))) (pa_cons (pe_op op_addA (pv 5) (pe_call G_law_pick (hr.mono (by decide)) (by rfl) T.m_law_pick T.F_law_pick.kp T.b_law_pick .nil pass0 (pa_cons (pv 1) (pa_cons (pv 2) pa_nil)))) (pa_cons (pe_op op_addA (pe_call G_law_pick (hr.mono (by decide)) (by rfl) T.m_law_pick T.F_law_pick.kp T.b_law_pick .nil pass0 (pa_cons (pv 1) (pa_cons (pv 2) pa_nil))) (pv 5)) pa_nil)))))))))
    (pss_cons (ps_for PassesOwn.never rfl (pi_list (pv 3)) (pg_name (i := 5) sc_law.nd rfl (.inl rfl))
     (pss_one (ps_if (pt_not (pt_val (pe_call G_law_same (hr.mono (by decide)) (by rfl) T.m_law_same T.F_law_same.kp T.b_law_same .nil pass0 (pa_cons (pe_call G_is_name (hr.mono (by decide)) (by rfl) T.m_is_name T.F_is_name.kp T.b_is_name .nil pass0 (pa_cons (pv 5) pa_nil)) (pa_cons (pe_call G_law_due (hr.mono (by decide)) (by rfl) T.m_law_due T.F_law_due.kp T.b_law_due .nil pass0 (pa_cons (pv 5) pa_nil)) pa_nil)))))
      (pss_one (ps_ret pe_bl))
      pss_nil)))
    (pss_one (ps_ret pe_bl)))))))), ?_⟩
  dsimp only [cxOf, Cx.nox, Cx.wish, L2.start, List.map, List.length, List.replicate, List.append]
  walk_at "rd"
  refine ⟨a, ns, rfl, hS, hl, fun st H1 s1 hst => ?_⟩
  walk_at "rd"
  intro p np
  have hst := hst.mono (same_new (o := .lst []) np)
  walk_at "rd"
  refine for_range (fun i σ H' => Here (∃ (ws : List Str) (p : Addr) (o o' : Option V), σ = [some (.ref a), some (.ref st), some (.str letters), some (.ref p), o, o'] ∧ StAt H' st ∧ H' p = some (.lst (ws.map V.str)) ∧ ws.length = 2 * i ∧ ∀ w ∈ ws, w.length ≤ 100))
    (.mk ⟨[], p, none, none, rfl, hst, upd_same, rfl, fun w hw => by cases hw⟩) (fun i σ H' hi q => ?_) (fun σ H' q => ?_)
  · obtain ⟨ws, p, o, o', rfl, hst, hp, hn, hw⟩ := q.out
    walk_at "rd"
    refine ⟨st, i, by simp, hst, by omega, fun x H2 s2 hx hc => ?_⟩
    have hst := hst.mono s2
    walk_at "rd"
    refine ⟨st, x, rfl, hst, by omega, fun y H3 s3 hy => ?_⟩
    walk_at "rd"
    intro q nq
    have hp := s3 _ _ (s2 _ _ hp)
    have hst := (hst.mono s3).mono (same_new (o := .lst [.str x, .str y]) nq)
    have hz : (ws.map V.str).length + ([.str x, .str y] : List V).length ≤ sizeLine := line_le (m := 100) (by rw [List.length_map, hn]; show 2 * i + 2 ≤ 100; have : Int.toNat 15 = 15 := rfl; omega) (by decide)
    walk_at "rd"
    intro r nr
    walk_at "rd"
    refine .mk ⟨ws ++ [x, y], r, _, _, rfl, hst.mono (same_new nr), by rw [List.map_append]; exact upd_same, by rw [List.length_append, hn]; rfl, fun w hm => ?_⟩
    have : Int.toNat 15 = 15 := rfl
    rcases List.mem_append.mp hm with e | e
    · exact hw w e
    · rcases List.mem_cons.mp e with rfl | e
      · omega
      · rw [List.mem_singleton.mp e]; omega
  · obtain ⟨ws, p, o, o', rfl, hst, hp, hn, hw⟩ := q.out
    walk_at "rd"
    intro c H2 s2 hc
    have hst := hst.mono s2
    have hp := s2 _ _ hp
    refine ⟨c, rfl, ⟨_, SqL.of hc⟩, for_list (xs := reserved.map V.str) (fun i σ H' => Here (∃ (ws : List Str) (p : Addr) (o o' : Option V), σ = [some (.ref a), some (.ref st), some (.str letters), some (.ref p), o, o'] ∧ StAt H' st ∧ H' c = some (.lst (reserved.map V.str)) ∧ H' p = some (.lst (ws.map V.str)) ∧ ws.length = 30 + 4 * i ∧ ∀ w ∈ ws, w.length ≤ 100))
      (.mk ⟨ws, p, o, o', rfl, hst, hc, hp, hn, hw⟩) (fun i σ H' _ q => ?_) (fun i v σ H' hi q => ?_) (fun σ H' q => ?_)⟩
    · obtain ⟨_, _, _, _, _, _, hc, _⟩ := q.out
      exact SqL.of hc
    · obtain ⟨ws, p, o, o', rfl, hst, hc, hp, hn, hw⟩ := q.out
      have hi18 : i < 18 := by
        have := (List.getElem?_eq_some_iff.mp hi).1
        exact this
      rw [List.getElem?_map] at hi
      obtain ⟨x, hx, rfl⟩ := Option.map_eq_some_iff.mp hi
      have hx10 : x.length ≤ 10 := by
        have : ∀ y ∈ reserved, y.length ≤ 10 := by decide +kernel
        exact this x (List.mem_of_getElem? hx)
      have z1 : 0 < letters.length := by decide
      have zx : x.length ≤ sizeLine := line_le (m := 10) hx10 (by decide)
      walk_at "rd"
      intro d H3 s3 hd
      have hst := hst.mono s3
      have zd : (⟨#[d]⟩ : Str).length = 1 := rfl
      have q1 : x.length + (⟨#[d]⟩ : Str).length ≤ sizeLine := app_len (m := 1) hx10 (Nat.le_refl _) (by decide)
      walk_at "rd"
      intro d' H4 s4 hd'
      have hst := hst.mono s4
      have zd' : (⟨#[d']⟩ : Str).length = 1 := rfl
      have q2 : (⟨#[d']⟩ : Str).length + x.length ≤ sizeLine := app_len (n := 1) (Nat.le_refl _) hx10 (by decide)
      walk_at "rd"
      intro r nr
      have hp := s4 _ _ (s3 _ _ hp)
      have hc := s4 _ _ (s3 _ _ hc)
      have hz : (ws.map V.str).length + ([.str x, .str (cutS x none (some (-1))), .str (x ++ ⟨#[d]⟩), .str ((⟨#[d']⟩ : Str) ++ x)] : List V).length ≤ sizeLine := line_le (m := 200) (by rw [List.length_map, hn]; show 30 + 4 * i + 4 ≤ 200; omega) (by decide)
      walk_at "rd"
      intro u nu
      have ncr := ne_of_none hc nr
      have ncu : c ≠ u := ne_of_none ((upd_ne ncr).trans hc) nu
      walk_at "rd"
      refine .mk ⟨ws ++ [x, cutS x none (some (-1)), x ++ ⟨#[d]⟩, (⟨#[d']⟩ : Str) ++ x], u, _, _, rfl, (hst.mono (same_new nr)).mono (same_new nu), by walk_at "hp", by rw [List.map_append]; exact upd_same, by rw [List.length_append, hn]; show 30 + 4 * i + 4 = _; omega, fun w hm => ?_⟩
      have l1 : (cutS x none (some (-1))).length ≤ x.length := cutS_length _ _ _
      rcases List.mem_append.mp hm with e | e
      · exact hw w e
      · simp only [List.mem_cons, List.not_mem_nil, or_false] at e
        rcases e with rfl | rfl | rfl | rfl
        · omega
        · omega
        · rw [len_app]; omega
        · rw [len_app]; omega
    · obtain ⟨ws, p, o, o', rfl, hst, hc, hp, hn, hw⟩ := q.out
      walk_at "rd"
      refine for_list (xs := ws.map V.str) (fun i σ H' => Here (∃ (o o' : Option V), σ = [some (.ref a), some (.ref st), some (.str letters), some (.ref p), o, o'] ∧ H' p = some (.lst (ws.map V.str))))
        (.mk ⟨o, o', rfl, hp⟩) (fun i σ H' _ q => ?_) (fun i v σ H' hi q => ?_) (fun σ H' q => ?_)
      · obtain ⟨_, _, _, hp⟩ := q.out
        exact SqL.of hp
      · obtain ⟨o, o', rfl, hp⟩ := q.out
        rw [List.getElem?_map] at hi
        obtain ⟨x, hx, rfl⟩ := Option.map_eq_some_iff.mp hi
        have zx : x.length ≤ sizeLine := line_le (m := 100) (hw x (List.mem_of_getElem? hx)) (by decide)
        walk_at "rd"
        intro H3 s3
        rw [name_due]
        walk_at "rd"
        refine ⟨_, _, rfl, ?_⟩
        rw [decide_eq_true (rfl : V.bl (dueName x) = V.bl (dueName x))]
        walk_at "rd"
        exact .mk ⟨o, _, rfl, s3 _ _ hp⟩
      · obtain ⟨o, o', rfl, hp⟩ := q.out
        walk_at "rd"
        exact k _
end
end K00
namespace K00
open PySem PySem.Spec PyProof.Rows L2 TK
abbrev RowO : PySem.W.OpenRow := PySem.W.OpenLaw.row PySem.Challenge.rw_takenorelse_k00_names_of_letters
abbrev hk : PySem.W.Hook := hookM 6 fa fn ex
def ob (s : PySem.W.SharedT) : AlM := obsM 6 fa fn ex (HandSHeadRun.getT s)
theorem ob_eq (s : PySem.W.SharedT) : ob s = hk.obs s.abs := obsM_eq (HandSHeadRun.getT_eq s)
def loose : List PySem.Str := (["LETTERS", "RESERVED", "NAME_LENGTH", "is_name", "_law_state", "_law_draw", "_law_pick", "_law_is_int", "_law_same", "_law_reserved", "_law_word", "_law_spoiled", "_law_due"] : List PySem.Str)
theorem run (w : World) : HandSHeadRun.RunEq RowO (PySem.W.view RowO.prog [15]) hk ob 600 loose w := by
  intro os
  kernel_rfl
end K00
open PySem PySem.W PySem.Calls PyProof.Rows
set_option maxRecDepth 100000 in
set_option maxHeartbeats 0 in
theorem PySem.Challenge.cw_takenorelse_k00_names_of_letters_holds : PySem.Challenge.rw_takenorelse_k00_names_of_letters.Holds := by
  w_on; o_law
  refine HandSHeadRun.head_any (r := OpenLaw.row PySem.Challenge.rw_takenorelse_k00_names_of_letters) (q := view (OpenLaw.row PySem.Challenge.rw_takenorelse_k00_names_of_letters).prog [15]) (H := K00.hk) (ob := K00.ob) (M := 600) (loose := K00.loose) (d := HandSHeadRun.topDef (OpenLaw.row PySem.Challenge.rw_takenorelse_k00_names_of_letters).prog 15) (kwd := []) K00.ob_eq
    (by kernel_rfl) (fun s => by kernel_rfl) K00.run (by kernel_rfl) (by kernel_rfl) (by kernel_rfl) (by rfl) (by first | assumption | decide +kernel) (by decide +kernel) ⟨rfl, rfl, rfl, rfl, rfl, by decide +kernel⟩ ?hw ?hc
  case hw => w_witness2
  case hc =>
    exact TK.row_by (l := PySem.Challenge.rw_takenorelse_k00_names_of_letters) (k := 4) (sp := K00.sp_law) (f := fun K => He.fAd K K00.at_law) (fd := fun K => TK.fdOf K K00.at_law) rfl (by kernel_rfl) ⟨rfl, by decide, by decide⟩ (by kernel_rfl)
      (fun K mg T => K00.Tx.m_law T) (fun K mg T s u => (L2.FunD.bindsA (ps := ["script"]) (K00.Tx.F_law T) (fun _ _ _ _ _ _ us hl => match us, hl with | [_], _ => rfl)) s [u] rfl)
      (fun K H a ns hl hO hS => K00.law_pre K H a ns hl hO hS) (fun w K mg base T => K00.ok_law T)
#print axioms PySem.Challenge.cw_takenorelse_k00_names_of_letters_holds
