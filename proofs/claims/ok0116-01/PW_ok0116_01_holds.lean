import PyProof.Rows.All
import Wide.All
import OpenK.AllK
import Wide.FinOn
import PySem.Challenge.RW_ok0116_01
set_option Elab.async false
set_option maxRecDepth 100000
set_option linter.unusedVariables false
set_option rowWalk.seconds 0
set_option compiler.extract_closed false
open PySem PySem.W PySem.Calls PyProof.Rows
namespace Mine

section
set_option maxHeartbeats 8000000
open PySem PySem.W PyProof.Rows
theorem keepHook (_ : Hook) {P : Prop} (h : P) : P := h
section
local macro_rules | `(tactic| o_head $H) => `(tactic| exact keepHook $H (by assumption))
theorem hd (h : PySem.Challenge.rw_ok0116_01.row.Holds) : PySem.Challenge.rw_ok0116_01.row.Holds := by
  k_head
end
end

section
set_option maxHeartbeats 200000
open PySem PySem.W PyProof.Rows
-- arithmetic ahead of the walks: asked amid a walk, with all that stands there, these make terms ten times as large
theorem om_zi (i : Nat) : (0 : Int) + (i : Int) * 1 = (i : Int) := by omega
theorem small_le {b : Int} (h0 : 0 ≤ b) (h1 : b ≤ 1000) : Builtin.Range.small 0 b 1 = true := small_one (by decide) (by decide) (by omega) (by omega)
theorem small_r1 {r : Int} (h0 : 0 ≤ r) (h1 : r < 4) : Builtin.Range.small 0 (1 + r) 1 = true := small_le (by omega) (by omega)
theorem small_r1' {r : Int} (h0 : 0 ≤ r) (h1 : r < 3) : Builtin.Range.small 0 (1 + r) 1 = true := small_le (by omega) (by omega)
theorem small_r7 {r : Int} (h0 : 0 ≤ r) (h1 : r < 7) : Builtin.Range.small 0 r 1 = true := small_le h0 (by omega)
theorem small_len {n : Nat} (h : n ≤ 16777216) : Builtin.Range.small 0 (n : Int) 1 = true := small_one (by decide) (by decide) (by omega) (by omega)
theorem om_63 {i n : Nat} {r : Int} (hi : i < n) (hn : n = (1 + r).toNat) (h : r < 4) : (i : Int) < 2 ^ 63 := by omega
theorem om_k1 {k r : Int} {i : Nat} (k0 : 1 ≤ k) (k1 : k ≤ 1 + 81 * (i : Int)) (hi : i < (1 + r).toNat) (h : r < 4) : 0 ≤ k ∧ k < 400 ∧ 0 ≤ k + 1 ∧ k + 1 < 400 ∧ k + 1 < 360 := by omega
theorem om_k5 {k k5 r : Int} {i : Nat} (k0 : 1 ≤ k) (k1 : k ≤ 1 + 81 * (i : Int)) (hi : i < (1 + r).toNat) (h : r < 4) (a : k + 1 ≤ k5) (b : k5 ≤ k + 1 + 40) : 0 ≤ k5 ∧ k5 < 360 := by omega
theorem om_k6 {k k5 k6 : Int} {i : Nat} (k0 : 1 ≤ k) (k1 : k ≤ 1 + 81 * (i : Int)) (a : k + 1 ≤ k5) (b : k5 ≤ k + 1 + 40) (c : k5 ≤ k6) (d : k6 ≤ k5 + 40) : 1 ≤ k6 ∧ k6 ≤ 1 + 81 * ((i + 1 : Nat) : Int) := by omega
theorem om_k7 {k : Int} {i : Nat} (k0 : 1 ≤ k) (k1 : k ≤ 1 + 81 * (i : Int)) : 1 ≤ k + 1 ∧ k + 1 ≤ 1 + 81 * ((i + 1 : Nat) : Int) ∧ 1 ≤ k + 1 + 1 ∧ k + 1 + 1 ≤ 1 + 81 * ((i + 1 : Nat) : Int) := by omega
theorem om_v {a b i : Nat} {r : Int} (h1 : a = b) (h2 : b = i) (hi : i < (1 + r).toNat) (h : r < 4) : a ≤ 16777216 := by omega
theorem om_vn {a b : Nat} {r : Int} (h1 : a = b) (h2 : b = (1 + r).toNat) (h : r < 4) : a ≤ 16777216 := by omega
theorem om_i {i a b : Nat} {r : Int} (hi : i < a) (h1 : a = b) (h2 : b = (1 + r).toNat) (h : r < 4) : (i : Int) < 2 ^ 63 ∧ (i : Int) < (a : Int) ∧ i < b ∧ (0 : Int) ≤ (i : Int) := by omega
theorem om_kv {x i a b : Nat} {r : Int} (hx : x ≤ i) (hi : i < a) (h1 : a = b) (h2 : b = (1 + r).toNat) (h : r < 4) : x ≤ 16777216 := by omega
theorem om_k4 {k4 k r : Int} {i : Nat} (a : 1 ≤ k4) (b : k4 ≤ k + 7 * (i : Int)) (hi : i < 4) (k1 : k ≤ 1 + 81 * (((1 + r).toNat : Nat) : Int)) (h : r < 4) (h0 : 0 ≤ r) : 0 ≤ k4 ∧ k4 < 400 := by omega
theorem om_kw {k2 k4 k r s : Int} {i j : Nat} (a : k4 + 1 ≤ k2) (b : k2 ≤ k4 + 1 + (j : Int)) (hj : j < (s - 0).toNat) (hs : s < 7) (a4 : 1 ≤ k4) (b4 : k4 ≤ k + 7 * (i : Int)) (hi : i < 4) (k1 : k ≤ 1 + 81 * (((1 + r).toNat : Nat) : Int)) (h : r < 4) (h0 : 0 ≤ r) : 0 ≤ k2 ∧ k2 < 400 := by omega
theorem om_s7 {r : Int} (h : r < 7) : (r - 0).toNat ≤ 16777216 := by omega
theorem om_kz {k4 k2 : Int} {j : Nat} (a : k4 + 1 ≤ k2) (b : k2 ≤ k4 + 1 + (j : Int)) : k4 + 1 ≤ k2 + 1 ∧ k2 + 1 ≤ k4 + 1 + ((j + 1 : Nat) : Int) := by omega
theorem om_n6 {a b : Nat} {r : Int} (h1 : a = b) (h2 : a = (r - 0).toNat) (h : r < 7) : b ≤ 6 := by omega
theorem om_kx {k k4 k2 r : Int} {i : Nat} (a : 1 ≤ k4) (b : k4 ≤ k + 7 * (i : Int)) (c : k4 + 1 ≤ k2) (d : k2 ≤ k4 + 1 + (((r - 0).toNat : Nat) : Int)) (h0 : 0 ≤ r) (h : r < 7) : 1 ≤ k2 ∧ k2 ≤ k + 7 * ((i + 1 : Nat) : Int) := by omega
theorem om_j {j a b : Nat} {r : Int} (hj : j < b) (h1 : a = b) (h2 : b = (1 + r).toNat) (h : r < 4) : (j : Int) < 2 ^ 63 ∧ (j : Int) < (a : Int) ∧ j < a ∧ (0 : Int) ≤ (j : Int) := by omega
-- the automaton's draws
theorem om_a1 {k k' : Int} {i : Nat} {r : Int} (h0 : 0 ≤ k) (h1 : k < 360) (a : k + 1 ≤ k') (b : k' ≤ k + 1 + 6 * (i : Int)) (hi : i < (1 + r - 0).toNat) (hr : r < 3) : 0 ≤ k' ∧ k' < 385 := by omega
theorem om_a2 {k' k2 : Int} {j : Nat} (h0 : 0 ≤ k' ∧ k' < 385) (a : k' ≤ k2) (b : k2 ≤ k' + 2 * (j : Int)) (hj : j < 3) : 0 ≤ k2 ∧ k2 < 400 ∧ 0 ≤ k2 + 1 ∧ k2 + 1 < 400 := by omega
theorem om_a3 {k k' k2 : Int} {n j : Nat} {r : Int} (h0 : 0 ≤ k) (h1 : k < 360) (a : k + 1 ≤ k') (b : k' ≤ k + 1 + 6 * (n : Int)) (hn : n = (1 + r - 0).toNat) (hr : r < 3) (r0 : 0 ≤ r) (a2 : k' ≤ k2) (b2 : k2 ≤ k' + (j : Int)) (hj : j < n) : 0 ≤ k2 ∧ k2 < 400 := by omega
end

section
set_option maxHeartbeats 200000
open PySem PySem.W PyProof.Rows
noncomputable def view : Program := { PySem.Challenge.rw_ok0116_01.row.toRowW.prog with main := { PySem.Challenge.rw_ok0116_01.row.toRowW.prog.main with body := [0, 2, 3, 5, 6, 7, 8, 9, 10, 12, 13, 14, 16, 17, 18, 19, 20, 21].filterMap (PySem.Challenge.rw_ok0116_01.row.toRowW.prog.main.body[·]?) } }
theorem walk_lit {q : Program} {loose : List Str} {XP : (Str → Option Value) → Heap → Prop} {YP : World → Heap → Prop} {r : RowW} {d0 : DefRec} {k0 : List (Str × Expr)} {run : Value → List Value → Sem Value}
    (e : defOf q r.name = some (d0, k0)) (h : WalkO q loose XP YP r d0 k0 run) : ∀ {d : DefRec} {k : List (Str × Expr)}, defOf q r.name = some (d, k) → WalkO q loose XP YP r d k run := by
  intro d k q
  rw [e] at q
  cases q
  exact h
end

section
set_option maxHeartbeats 200000

/-- an automaton as data -/
structure Aut where
  rows : List (List Int)
  tags : List Bool
structure Aut.Ok (a : Aut) : Prop where
  same : a.tags.length = a.rows.length
  pos : 0 < a.rows.length
  three : a.rows.length ≤ 3
  cols : ∀ (i : Nat) (r : List Int), a.rows[i]? = some r → r.length = 3
  lo : ∀ (i : Nat) (r : List Int) (j : Nat) (v : Int), a.rows[i]? = some r → r[j]? = some v → -1 ≤ v
  hi : ∀ (i : Nat) (r : List Int) (j : Nat) (v : Int), a.rows[i]? = some r → r[j]? = some v → v < (a.rows.length : Int)
noncomputable def Aut.step (a : Aut) (s n : Int) : Int := if s < 0 then -1 else (a.rows.getD s.toNat []).getD n.toNat (-1)
noncomputable def Aut.fin (a : Aut) (s : Int) : Bool := if s < 0 then false else a.tags.getD s.toNat false
def Aut.In (a : Aut) (s : Int) : Prop := -1 ≤ s ∧ s < (a.rows.length : Int)
theorem Aut.Ok.step_in {a : Aut} (h : a.Ok) (s n : Int) : a.In (a.step s n) := by
  have hp := h.pos
  unfold Aut.step Aut.In
  split
  · constructor <;> omega
  · rw [List.getD_eq_getElem?_getD, List.getD_eq_getElem?_getD]
    cases hr : a.rows[s.toNat]? with
    | none => simp; omega
    | some r =>
      simp only [Option.getD_some]
      cases hv : r[n.toNat]? with
      | none => simp; omega
      | some v => exact ⟨h.lo _ _ _ _ hr hv, h.hi _ _ _ _ hr hv⟩

/-- rows in the heap -/
def RowsAt (h : Heap) (vs : List Value) (rs : List (List Int)) : Prop :=
  vs.length = rs.length ∧ ∀ (i : Nat) (r : List Int), rs[i]? = some r → ∃ (row : Addr) (its : List Value), vs[i]? = some (.ref row) ∧ h.IsList row its.toArray ∧ IntsAre its r
def TagsAt (h : Heap) (vs : List Value) (bs : List Bool) : Prop :=
  vs.length = bs.length ∧ ∀ (i : Nat) (b : Bool), bs[i]? = some b → ∃ (tp : Addr) (t : Tok), vs[i]? = some (.ref tp) ∧ IsTup h tp (if b then #[.int 0 t] else #[])
inductive DfaAt (h : Heap) (x : Addr) (a : Aut) : Prop
  | mk (dx : Addr) (n : Nat) (rl gl : Addr) (t1 t2 : Tok) (h1 h2 : Int) (rows tags : List Value)
    (I : InstAt h x (instObj 71 dx) 71 (some (dictOf [⟨h1, .str (Str.ofString "rows") t1, .ref rl⟩, ⟨h2, .str (Str.ofString "tags") t2, .ref gl⟩] n)))
    (e1 : h.IsList rl rows.toArray) (e2 : h.IsList gl tags.toArray) (e3 : RowsAt h rows a.rows) (e4 : TagsAt h tags a.tags) : DfaAt h x a
theorem DfaAt.at_ {h : Heap} {x : Addr} {a : Aut} (D : DfaAt h x a) : DfaAt h x a := D

theorem instAt_keeps {h h' : Heap} {x : Addr} {ox : Obj} {C : Addr} {od : Option Obj} (I : InstAt h x ox C od) (k : h.StaysIn h') : InstAt h' x ox C od := by
  refine ⟨k _ _ I.at_, I.cls, I.no, ?_⟩
  have hd := I.dict
  cases h1 : ox.dict with
  | none => cases od with
    | none => trivial
    | some o => rw [h1] at hd; exact hd.elim
  | some dx => cases od with
    | none => rw [h1] at hd; exact hd.elim
    | some o => rw [h1] at hd; exact k _ _ hd
theorem RowsAt.keeps {h h' : Heap} {vs : List Value} {rs : List (List Int)} (R : RowsAt h vs rs) (k : h.StaysIn h') : RowsAt h' vs rs :=
  ⟨R.1, fun i r e => let ⟨row, its, e1, e2, e3⟩ := R.2 i r e; ⟨row, its, e1, stays_list k e2, e3⟩⟩
theorem TagsAt.keeps {h h' : Heap} {vs : List Value} {rs : List Bool} (R : TagsAt h vs rs) (k : h.StaysIn h') : TagsAt h' vs rs :=
  ⟨R.1, fun i r e => let ⟨tp, t, e1, e2⟩ := R.2 i r e; ⟨tp, t, e1, stays_tup k e2⟩⟩
theorem DfaAt.keeps {h h' : Heap} {x : Addr} {a : Aut} (D : DfaAt h x a) (k : h.StaysIn h') : DfaAt h' x a :=
  let ⟨dx, n, rl, gl, t1, t2, h1, h2, rows, tags, I, e1, e2, e3, e4⟩ := D.at_
  ⟨dx, n, rl, gl, t1, t2, h1, h2, rows, tags, instAt_keeps I k, stays_list k e1, stays_list k e2, e3.keeps k, e4.keeps k⟩

theorem Aut.step_row {a : Aut} {st n : Int} {r : List Int} (hr : a.rows[st.toNat]? = some r) (h0 : 0 ≤ st) (hn : n.toNat < r.length) : r.getD n.toNat 0 = a.step st n := by
  have e : a.rows.getD st.toNat [] = r := by rw [List.getD_eq_getElem?_getD, hr]; rfl
  rw [Aut.step, if_neg (by omega), e, List.getD_eq_getElem?_getD, List.getD_eq_getElem?_getD, List.getElem?_eq_getElem hn]; rfl
theorem Aut.fin_tag {a : Aut} {st : Int} {b : Bool} (hr : a.tags[st.toNat]? = some b) (h0 : 0 ≤ st) : a.fin st = b := by
  rw [Aut.fin, if_neg (by omega), List.getD_eq_getElem?_getD, hr]; rfl
theorem Aut.fin_dead {a : Aut} : a.fin (-1) = false := rfl
theorem Aut.step_dead {a : Aut} {n : Int} : a.step (-1) n = -1 := rfl

theorem item_any {prog : Program} {w : World} {A : Around} {E : Value → Shared → Prop} {s : Shared} {value slice : PySem.Expr} {l : Addr} {vs : List Value} {k : Int} {u : Tok} {v : Value} {Q : Value → Shared → Prop}
    (hl : s.heap.IsList l vs.toArray) (h0 : 0 ≤ k) (hhi : k < 2 ^ 63) (hx : vs[k.toNat]? = some v) (h : Q v s)
    (hs : subscripted slice false (.ref l) (.int k u) = operate [.ref l, .int k u] (getItem (.ref l) (.int k u)) := by with_unfolding_all rfl) :
    wpAny (model prog w) A (subscriptTail value slice (.ref l) (.int k u)) Q E s :=
  tail_any hl.typeIs slot_list_getitem.lookup (wpAny_getItem_list hl h0 hhi (by simpa using hx) h) hs

noncomputable def Aut.run (a : Aut) (st : Int) (word : List Int) : Int := word.foldl a.step st
noncomputable def Aut.takes (a : Aut) (word : List Int) : Bool := a.fin (a.run 0 word)
noncomputable def cutOf (f b : Aut) (word : List Int) : Nat → Int
  | 0 => -1
  | k + 1 => if f.takes (word.take k) && b.takes (word.drop k).reverse then (k : Int) else cutOf f b word k
theorem Aut.Ok.zero {a : Aut} (h : a.Ok) : a.In 0 := by have := h.pos; unfold Aut.In; constructor <;> omega
theorem Aut.Ok.run_in {a : Aut} (h : a.Ok) (word : List Int) : ∀ {st : Int}, a.In st → a.In (a.run st word) := by
  induction word with
  | nil => intro st h0; exact h0
  | cons n r ih => intro st _; exact ih (h.step_in st n)
theorem Aut.run_snoc (a : Aut) (st : Int) (word : List Int) (n : Int) : a.run st (word ++ [n]) = a.step (a.run st word) n := by
  unfold Aut.run; rw [List.foldl_append]; rfl
/-- the object of a cut -/
inductive CutAt (h : Heap) (x : Addr) (way : Str) (len fr bk : Value) : Prop
  | mk (dx : Addr) (n : Nat) (t0 t1 t2 t3 t4 : Tok) (h1 h2 h3 h4 : Int)
    (I : InstAt h x (instObj 92 dx) 92 (some (dictOf [⟨h1, .str (Str.ofString "way") t1, .str way t0⟩, ⟨h2, .str (Str.ofString "length") t2, len⟩, ⟨h3, .str (Str.ofString "front") t3, fr⟩, ⟨h4, .str (Str.ofString "back") t4, bk⟩] n))) : CutAt h x way len fr bk
theorem CutAt.at_ {h : Heap} {x : Addr} {way : Str} {len fr bk : Value} (D : CutAt h x way len fr bk) : CutAt h x way len fr bk := D
theorem CutAt.keeps {h h' : Heap} {x : Addr} {way : Str} {len fr bk : Value} (D : CutAt h x way len fr bk) (k : h.StaysIn h') : CutAt h' x way len fr bk :=
  let ⟨dx, n, t0, t1, t2, t3, t4, h1, h2, h3, h4, I⟩ := D.at_
  ⟨dx, n, t0, t1, t2, t3, t4, h1, h2, h3, h4, instAt_keeps I k⟩
/-- a word in the heap -/
structure WordAt (h : Heap) (l : Addr) (word : List Int) : Prop where
  at_ : ∃ its : List Value, h.IsList l its.toArray ∧ IntsAre its word
  small : word.length ≤ 6
  digits : ∀ n ∈ word, 0 ≤ n ∧ n < 3
theorem WordAt.keeps {h h' : Heap} {l : Addr} {word : List Int} (D : WordAt h l word) (k : h.StaysIn h') : WordAt h' l word :=
  let ⟨its, e, i⟩ := D.at_
  ⟨⟨its, stays_list k e, i⟩, D.small, D.digits⟩

theorem mul_false {prog : Program} {w : World} {A : Around} {E : Value → Shared → Prop} {s : Shared} {h₀ : Heap} {L l : Addr} {m : Str → Option Value} {news : List (Addr × Obj)} {x : Int} {u : Tok} {Q : Value → Shared → Prop}
    (F : Fr h₀ L s.heap m) (N : News h₀ L s.heap news) (hl : s.heap.IsList l [Value.bool false].toArray) (h0 : 0 ≤ x) (h1 : x ≤ 1000)
    (h : ∀ D h' vs bs, Fr h₀ L h' m → News h₀ L h' ((D, listOf vs.toArray 0) :: news) → (∀ p ∈ news, p.1 < D) → LSm.BoolsAre vs bs → (bs.length : Int) = x → Q (.ref D) { s with heap := h' }) :
    wpAny (model prog w) A (binaryOp .Mult (.ref l) (.int x u)) Q E s := by
  refine kbo_mul F N hl (LSm.BoolsAre.cons false LSm.BoolsAre.nil) (by omega) (by omega) (by simp only [List.length_cons, List.length_nil]; omega) ?_
  intro D h' F' N' l1 b n e1 e2 e3 e4 e5
  refine h D h' _ _ F' N' l1 b ?_
  have := e4 h0
  simp only [List.length_cons, List.length_nil] at this
  omega

theorem digit_at {word : List Int} (hd : ∀ n ∈ word, 0 ≤ n ∧ n < 3) (k : Nat) : 0 ≤ word.getD k 0 ∧ word.getD k 0 < 3 := by
  rw [List.getD_eq_getElem?_getD]
  cases h : word[k]? with
  | none => exact ⟨Int.le_refl _, by decide⟩
  | some n => exact hd n (List.mem_of_getElem? h)
theorem drop_rev {word : List Int} {k : Nat} (h : k < word.length) : (word.drop k).reverse = (word.drop (k + 1)).reverse ++ [word.getD k 0] := by
  rw [List.drop_eq_getElem_cons h, List.reverse_cons, List.getD_eq_getElem?_getD, List.getElem?_eq_getElem h, Option.getD_some]
theorem take_snoc {word : List Int} {k : Nat} (h : k < word.length) : word.take (k + 1) = word.take k ++ [word.getD k 0] := by
  rw [List.take_add_one, List.getD_eq_getElem?_getD, List.getElem?_eq_getElem h, Option.getD_some]; rfl

/-- the tuple of an automaton -/
structure AutAt (h : Heap) (t : Addr) (a : Aut) : Prop where
  at_ : ∃ (rl gl : Addr) (rows gv : List Value), IsTup h t #[.ref rl, .ref gl] ∧ h.IsList rl rows.toArray ∧ h.IsList gl gv.toArray ∧ RowsAt h rows a.rows ∧ LSm.BoolsAre gv a.tags
theorem AutAt.keeps {h h' : Heap} {t : Addr} {a : Aut} (D : AutAt h t a) (k : h.StaysIn h') : AutAt h' t a :=
  let ⟨rl, gl, rows, gv, e1, e2, e3, e4, e5⟩ := D.at_
  ⟨rl, gl, rows, gv, stays_tup k e1, stays_list k e2, stays_list k e3, e4.keeps k, e5⟩

noncomputable def spotsTo (a b : Aut) (word : List Int) : Nat → List Int
  | 0 => []
  | k + 1 => spotsTo a b word k ++ if a.takes (word.take k) && b.takes (word.drop k).reverse then [(k : Int)] else []

theorem dig_take {word : List Int} {k : Nat} (h : ∀ n ∈ word, 0 ≤ n ∧ n < 3) : ∀ n ∈ word.take k, 0 ≤ n ∧ n < 3 := fun n hn => h n (List.mem_of_mem_take hn)
theorem dig_drop {word : List Int} {k : Nat} (h : ∀ n ∈ word, 0 ≤ n ∧ n < 3) : ∀ n ∈ word.drop k, 0 ≤ n ∧ n < 3 := fun n hn => h n (List.mem_of_mem_drop hn)
theorem dig_rev {word : List Int} (h : ∀ n ∈ word, 0 ≤ n ∧ n < 3) : ∀ n ∈ word.reverse, 0 ≤ n ∧ n < 3 := fun n hn => h n (List.mem_reverse.mp hn)

theorem spotsTo_length (a b : Aut) (word : List Int) : ∀ k, (spotsTo a b word k).length ≤ k
  | 0 => Nat.le_refl _
  | k + 1 => by
    have ih := spotsTo_length a b word k
    rw [spotsTo, List.length_append]
    split
    · simp only [List.length_cons, List.length_nil]; omega
    · simp only [List.length_nil]; omega
theorem spotsTo_lt (a b : Aut) (word : List Int) : ∀ k, ∀ n ∈ spotsTo a b word k, 0 ≤ n ∧ n < (k : Int)
  | 0, _, h => nomatch h
  | k + 1, n, h => by
    rw [spotsTo] at h
    rcases List.mem_append.mp h with h | h
    · have := spotsTo_lt a b word k n h
      omega
    · split at h
      · rw [List.mem_singleton.mp h]; omega
      · cases h
theorem cutOf_mem (a b : Aut) (word : List Int) : ∀ k, cutOf a b word k ∈ -1 :: spotsTo a b word k
  | 0 => List.mem_cons_self
  | k + 1 => by
    rw [cutOf, spotsTo]
    split
    · exact List.mem_cons_of_mem _ (List.mem_append_right _ (by simp))
    · simpa using cutOf_mem a b word k
theorem cutOf_le (a b : Aut) (word : List Int) : ∀ k, ∀ n ∈ -1 :: spotsTo a b word k, n ≤ cutOf a b word k
  | 0, n, h => by rw [List.mem_singleton.mp h]; exact Int.le_refl _
  | k + 1, n, h => by
    rw [spotsTo] at h
    rw [cutOf]
    split
    · rename_i hc
      rw [if_pos hc] at h
      rcases List.mem_cons.mp h with rfl | h
      · omega
      · rcases List.mem_append.mp h with h | h
        · have := spotsTo_lt a b word k n h
          omega
        · rw [List.mem_singleton.mp h]; omega
    · rename_i hc
      rw [if_neg hc, List.append_nil] at h
      exact cutOf_le a b word k n h

inductive Plan where
  | none
  | behind (n : Int)
  | ahead (n : Int)
  | search (a b : Aut)
noncomputable def Plan.due : Plan → List Int → Int
  | .none, w => (w.length : Int)
  | .behind n, w => (w.length : Int) - n
  | .ahead n, _ => n
  | .search a b, w => cutOf a b w (w.length + 1)
def Plan.Ok : Plan → Prop
  | .search a b => a.Ok ∧ b.Ok
  | .behind n => 0 ≤ n ∧ n < 4
  | .ahead n => 0 ≤ n ∧ n < 4
  | .none => True
def PlanAt (h : Heap) (v : Value) : Plan → Prop
  | .none => v = .none
  | .behind n => ∃ (t : Addr) (k1 k2 : Tok), v = .ref t ∧ IsTup h t #[.str (Str.ofString "behind") k1, .int n k2]
  | .ahead n => ∃ (t : Addr) (k1 k2 : Tok), v = .ref t ∧ IsTup h t #[.str (Str.ofString "ahead") k1, .int n k2]
  | .search a b => ∃ (t : Addr) (k : Tok) (ta tb : Addr), v = .ref t ∧ IsTup h t #[.str (Str.ofString "search") k, .ref ta, .ref tb] ∧ AutAt h ta a ∧ AutAt h tb b
theorem PlanAt.keeps {h h' : Heap} {v : Value} : ∀ {p : Plan}, PlanAt h v p → h.StaysIn h' → PlanAt h' v p
  | .none, e, _ => e
  | .behind _, ⟨t, k1, k2, e, i⟩, k => ⟨t, k1, k2, e, stays_tup k i⟩
  | .ahead _, ⟨t, k1, k2, e, i⟩, k => ⟨t, k1, k2, e, stays_tup k i⟩
  | .search _ _, ⟨t, k1, ta, tb, e, i, x, y⟩, k => ⟨t, k1, ta, tb, e, stays_tup k i, x.keeps k, y.keeps k⟩

theorem notin_dict {prog : Program} {w : World} {A : Around} {E : Value → Shared → Prop} {s : Shared} {d : Addr} {k : Int} {t : Tok} {kvs : List (Int × Value)} {Q : Value → Shared → Prop}
    (hd : s.heap.DictOf (intKind prog w) d kvs) (lo : (d == sysModules) = false) (b : Bool) (hb : (valueAt kvs k).isSome = b) (h : Q (.bool (!b)) { s with toks := s.toks + 1 }) :
    wpAny (model prog w) A (compareOp .NotIn (.int k t) (.ref d)) Q E s := wpAny_notIn_of (intKind_is _ _ _ _) lo hd.mapOf (by rw [hb]; exact h)
theorem item_dict {prog : Program} {w : World} {A : Around} {E : Value → Shared → Prop} {s : Shared} {value slice : PySem.Expr} {d : Addr} {k : Int} {t : Tok} {v : Value} {kvs : List (Int × Value)} {Q : Value → Shared → Prop}
    (hd : s.heap.DictOf (intKind prog w) d kvs) (hl : valueAt kvs k = some v) (h : Q v { s with toks := s.toks + 1 })
    (hs : subscripted slice false (.ref d) (.int k t) = operate [.ref d, .int k t] (getItem (.ref d) (.int k t)) := by with_unfolding_all rfl) :
    wpAny (model prog w) A (subscriptTail value slice (.ref d) (.int k t)) Q E s :=
  tail_any hd.typeIs slot_dict_getitem.lookup (wpAny_getItem_of (intKind_is _ _ _ _) hd.mapOf hl h) hs
theorem dictOf_keeps {prog : Program} {w : World} {h h' : Heap} {d : Addr} {kvs : List (Int × Value)} (k : h.StaysIn h') (x : h.DictOf (intKind prog w) d kvs) : h'.DictOf (intKind prog w) d kvs := x.at fun o e => k _ _ e
/-- the dict of the tables' object -/
inductive IsLex (v5 v8 v9 : Value) : Obj → Prop
  | mk {n : Nat} {t1 t2 t3 t4 t5 t6 t7 t8 t9 : Tok} {h1 h2 h3 h4 h5 h6 h7 h8 h9 : Int} {v1 v2 v3 v4 v6 v7 : Value} : IsLex v5 v8 v9 (dictOf [⟨h1, .str (Str.ofString "classes") t1, v1⟩, ⟨h2, .str (Str.ofString "names") t2, v2⟩, ⟨h3, .str (Str.ofString "automata") t3, v3⟩, ⟨h4, .str (Str.ofString "rules") t4, v4⟩,
      ⟨h5, .str (Str.ofString "cuts") t5, v5⟩, ⟨h6, .str (Str.ofString "ends") t6, v6⟩, ⟨h7, .str (Str.ofString "has_default") t7, v7⟩, ⟨h8, .str (Str.ofString "end_rules") t8, v8⟩, ⟨h9, .str (Str.ofString "has_reject") t9, v9⟩] n)
/-- the tables in the heap -/
structure LexAt (prog : Program) (w : World) (h : Heap) (tb cd : Addr) (kvs : List (Int × Value)) : Prop where
  at_ : ∃ (dx : Addr) (od : Obj) (v8 v9 : Value), InstAt h tb (instObj 141 dx) 141 (some od) ∧ IsLex (.ref cd) v8 v9 od
  dict : h.DictOf (intKind prog w) cd kvs
  lo : (cd == sysModules) = false
theorem LexAt.keeps {prog : Program} {w : World} {h h' : Heap} {tb cd : Addr} {kvs : List (Int × Value)} (D : LexAt prog w h tb cd kvs) (k : h.StaysIn h') : LexAt prog w h' tb cd kvs :=
  ⟨let ⟨dx, od, v8, v9, I, x⟩ := D.at_; ⟨dx, od, v8, v9, instAt_keeps I k, x⟩, dictOf_keeps k D.dict, D.lo⟩
/-- what the cuts hold of a plan -/
def CutOk (h : Heap) (v : Option Value) : Plan → Prop
  | .none => v = none
  | .behind n => ∃ (x : Addr) (t : Tok), v = some (.ref x) ∧ CutAt h x (Str.ofString "behind") (.int n t) .none .none
  | .ahead n => ∃ (x : Addr) (t : Tok), v = some (.ref x) ∧ CutAt h x (Str.ofString "ahead") (.int n t) .none .none
  | .search a b => ∃ (x f g : Addr), v = some (.ref x) ∧ CutAt h x (Str.ofString "search") .none (.ref f) (.ref g) ∧ DfaAt h f a ∧ DfaAt h g b
theorem CutOk.keeps {h h' : Heap} {v : Option Value} : ∀ {p : Plan}, CutOk h v p → h.StaysIn h' → CutOk h' v p
  | .none, e, _ => e
  | .behind _, ⟨x, t, e, i⟩, k => ⟨x, t, e, i.keeps k⟩
  | .ahead _, ⟨x, t, e, i⟩, k => ⟨x, t, e, i.keeps k⟩
  | .search _ _, ⟨x, f, g, e, i, a, b⟩, k => ⟨x, f, g, e, i.keeps k, a.keeps k, b.keeps k⟩

open PySem.Spec in
/-- what told tells -/
noncomputable def toldD (a : Aut) : PyData := .tuple [.tuple (a.rows.map fun r => .tuple (r.map .int)), .tuple (a.tags.map fun b => .tuple (if b then [.int 0] else []))]

section
open PySem.Spec
theorem readsAll_at {h : Heap} : ∀ {vs : List Value} {ds : List PyData}, vs.length = ds.length → (∀ (j : Nat) (v : Value) (d : PyData), vs[j]? = some v → ds[j]? = some d → ∃ as, Reads h v d as) → ∃ as, ReadsAll h vs ds as
  | [], [], _, _ => ⟨_, .nil⟩
  | v :: vs, d :: ds, hl, hx => by
    obtain ⟨as, ha⟩ := hx 0 v d rfl rfl
    obtain ⟨bs, hb⟩ := readsAll_at (vs := vs) (ds := ds) (by simpa using hl) fun j v' d' e1 e2 => hx (j + 1) v' d' e1 e2
    exact ⟨_, .cons ha hb⟩
  | [], _ :: _, hl, _ => by cases hl
  | _ :: _, [], hl, _ => by cases hl
theorem readsInts {h : Heap} {vs : List Value} {ns : List Int} (hi : IntsAre vs ns) : ∃ as, ReadsAll h vs (ns.map PyData.int) as := by
  refine readsAll_at (by rw [List.length_map]; exact hi.length) fun j v d e1 e2 => ?_
  obtain ⟨n, t, rfl, hn⟩ := hi.at j v e1
  rw [List.getElem?_map, hn] at e2
  cases e2
  exact ⟨_, .int _ _⟩
theorem reads_tup {h : Heap} {t : Addr} {its : Array Value} {ds : List PyData} (ht : IsTup h t its) (hr : ∃ as, ReadsAll h its.toList ds as) : ∃ as, Reads h (.ref t) (.tuple ds) as :=
  let ⟨o, e, c, n, d⟩ := ht
  let ⟨as, r⟩ := hr
  ⟨as, .tuple e c d r⟩
theorem told_reads {h : Heap} {D t1 t2 : Addr} {ys tags : List Value} {a : Aut} (hD : IsTup h D #[.ref t1, .ref t2]) (h1 : IsTup h t1 ys.toArray) (h2 : IsTup h t2 tags.toArray) (hl : ys.length = a.rows.length)
    (hall : ∀ (j : Nat) (r : List Int), a.rows[j]? = some r → ∃ (tp : Addr) (its : List Value), ys[j]? = some (.ref tp) ∧ IsTup h tp its.toArray ∧ IntsAre its r) (htag : TagsAt h tags a.tags) : ∃ as, Reads h (.ref D) (toldD a) as := by
  refine reads_tup hD (readsAll_at rfl ?_)
  intro j v d e1 e2
  match j with
  | 0 =>
    cases e1; cases e2
    refine reads_tup h1 (readsAll_at (by rw [List.length_map]; exact hl) fun j v d e1 e2 => ?_)
    rw [List.getElem?_map] at e2
    cases hr : a.rows[j]? with
    | none => rw [hr] at e2; cases e2
    | some r =>
      rw [hr] at e2; cases e2
      obtain ⟨tp, its, f1, f2, f3⟩ := hall j r hr
      have f1' : ys[j]? = some v := e1
      rw [f1] at f1'; cases f1'
      exact reads_tup f2 (readsInts f3)
  | 1 =>
    cases e1; cases e2
    refine reads_tup h2 (readsAll_at (by rw [List.length_map]; exact htag.1) fun j v d e1 e2 => ?_)
    rw [List.getElem?_map] at e2
    cases hr : a.tags[j]? with
    | none => rw [hr] at e2; cases e2
    | some b =>
      rw [hr] at e2; cases e2
      obtain ⟨tp, t, f1, f2⟩ := htag.2 j b hr
      have f1' : tags[j]? = some v := e1
      rw [f1] at f1'; cases f1'
      refine reads_tup f2 ?_
      cases b with
      | true => exact ⟨_, .cons (.int 0 t) .nil⟩
      | false => exact ⟨_, .nil⟩
  | j + 2 => cases e1
end

/-- what holds by the objects made between h and h' alone -/
def NewIn (h h' : Heap) (P : Heap → Prop) : Prop := ∀ k : Heap, (∀ b o, h.get? b = none → h'.get? b = some o → k.get? b = some o) → P k
theorem NewIn.here {h h' : Heap} {P : Heap → Prop} (x : NewIn h h' P) : P h' := x h' fun _ _ _ e => e
theorem newIn_of {h g h' : Heap} {L : Addr} {news : List (Addr × Obj)} {P : Heap → Prop} (k0 : h.StaysIn g) (N : News g L h' news) (x : ∀ k : Heap, (∀ p ∈ news, k.get? p.1 = some p.2) → P k) : NewIn h h' P := by
  intro k hk
  refine x k fun p hp => hk _ _ ?_ (N p hp).1
  cases e : h.get? p.1 with
  | none => rfl
  | some o => have := k0 _ _ e; rw [(N p hp).2.2] at this; cases this
theorem has_isList {k : Heap} {news : List (Addr × Obj)} {a : Addr} {items : Array Value} {n : Nat} (x : ∀ p ∈ news, k.get? p.1 = some p.2) (hm : (a, listOf items n) ∈ news) : k.IsList a items := ⟨_, x _ hm, rfl, _, rfl⟩
theorem has_isTup {k : Heap} {news : List (Addr × Obj)} {a : Addr} {items : Array Value} {n : Nat} (x : ∀ p ∈ news, k.get? p.1 = some p.2) (hm : (a, ({ cls := .type "tuple", data := .seq items n } : Obj)) ∈ news) : IsTup k a items := ⟨_, x _ hm, rfl, _, rfl⟩
theorem has_inst {k : Heap} {news : List (Addr × Obj)} {x C dx : Addr} {od : Obj} (hx : ∀ p ∈ news, k.get? p.1 = some p.2) (h1 : (x, instObj C dx) ∈ news) (h2 : (dx, od) ∈ news) : InstAt k x (instObj C dx) C (some od) :=
  ⟨hx _ h1, rfl, rfl, hx _ h2⟩

/-- what a call of the taker gives -/
def TakeSpec (w : World) (f pl : Addr) (TO : List (Addr × Obj)) : Prop :=
  ∀ (p : Program) (loose : List Str) (mean : ExcName → Option Value) (mg mb : Str → Option Value) (dp un : Nat) (gd : Option (List Code)) (env : Env) (outer : List Env) (A₀ : Around) (base h₀ : Heap) (L : Addr) (m : Str → Option Value) (s : Shared) (Q E : Value → Shared → Prop) (k lim : Int) (kt lt : Tok),
    Below A₀ base outer h₀ → Fr h₀ L s.heap m → (hd.heap_1 w.params).In h₀ → Top p loose mean mg mb h₀ → env.frame = some L → env.scope.kind = .function → dp < 850 →
    News h₀ L s.heap ((pl, listOf #[.int k kt] 0) :: TO) → 0 ≤ k → k < 400 → 0 < lim → lim < 100 →
    (∀ h' tk' r t kt', (∀ b o, b ≠ pl → s.heap.get? b = some o → h'.get? b = some o) → h'.get? pl = some (listOf #[.int (k + 1) kt'] 0) → 0 ≤ r → r < lim → Q (.int r t) { s with heap := h', toks := tk' }) →
    wpAny (model Challenge.rw_ok0116_01.row.prog w) { handled := none, depth := dp, frames := some (env :: outer), guards := gd, units := un } (call (.ref f) [.int lim lt]) Q E s
theorem fr_ext {h₀ h h' : Heap} {L pl : Addr} {m : Str → Option Value} {o : Obj} {news : List (Addr × Obj)} (F : Fr h₀ L h m) (N : News h₀ L h news) (hm : (pl, o) ∈ news) (x : ∀ b o, b ≠ pl → h.get? b = some o → h'.get? b = some o) : Fr h₀ L h' m := by
  have z := N _ hm
  exact ⟨F.ns.at' fun o e => x L o (Ne.symm z.2.1) e, fun b o e => x b o (fun q => by rw [q, z.2.2] at e; cases e) (F.keep b o e), F.above⟩
theorem news_ext {h₀ h h' : Heap} {L pl : Addr} {o o' : Obj} {all all' : List (Addr × Obj)} (N : News h₀ L h all) (U : Upd pl o o' all all') (x : ∀ b o, b ≠ pl → h.get? b = some o → h'.get? b = some o) (hpl : h'.get? pl = some o') : News h₀ L h' all' := by
  obtain ⟨pre, post, rfl, rfl, a, b⟩ := U.split
  intro p hp
  rcases List.mem_append.mp hp with hp | hp
  · have z := N p (List.mem_append_left _ hp)
    exact ⟨x _ _ (a p hp) z.1, z.2⟩
  · rcases List.mem_cons.mp hp with rfl | hp
    · exact ⟨hpl, (N (pl, o) (List.mem_append_right _ (.head _))).2⟩
    · have z := N p (List.mem_append_right _ (.tail _ hp))
      exact ⟨x _ _ (b p hp) z.1, z.2⟩
theorem news_sub2 {h₀ h : Heap} {L pl : Addr} {o : Obj} {all TO : List (Addr × Obj)} (N : News h₀ L h all) (hm : (pl, o) ∈ all) (hs : ∀ p ∈ TO, p ∈ all) : News h₀ L h ((pl, o) :: TO) := fun p hp => by
  rcases List.mem_cons.mp hp with rfl | hp
  · exact N _ hm
  · exact N p (hs p hp)
theorem take_use {w : World} {f pl : Addr} {TO all : List (Addr × Obj)} (TS : TakeSpec w f pl TO)
    {p : Program} {loose : List Str} {mean : ExcName → Option Value} {mg mb : Str → Option Value} {dp un : Nat} {gd : Option (List Code)} {env : Env} {outer : List Env} {A₀ : Around} {base h₀ : Heap} {L : Addr} {m : Str → Option Value} {s : Shared} {Q E : Value → Shared → Prop} {k lim : Int} {kt lt : Tok}
    (B : Below A₀ base outer h₀) (F : Fr h₀ L s.heap m) (X : (hd.heap_1 w.params).In h₀) (T : Top p loose mean mg mb h₀) (hf : env.frame = some L) (hke : env.scope.kind = .function) (hdp : dp < 850)
    (N : News h₀ L s.heap all) (hm : (pl, listOf #[.int k kt] 0) ∈ all) (hs : ∀ p ∈ TO, p ∈ all) (k0 : 0 ≤ k) (k1 : k < 400) (l0 : 0 < lim) (l1 : lim < 100)
    (ret : ∀ h' tk' r t kt', Fr h₀ L h' m → (∀ all', Upd pl (listOf #[.int k kt] 0) (listOf #[.int (k + 1) kt'] 0) all all' → News h₀ L h' all') → (∀ b o, b ≠ pl → s.heap.get? b = some o → h'.get? b = some o) → h'.get? pl = some (listOf #[.int (k + 1) kt'] 0) → 0 ≤ r → r < lim → Q (.int r t) { s with heap := h', toks := tk' }) :
    wpAny (model Challenge.rw_ok0116_01.row.prog w) { handled := none, depth := dp, frames := some (env :: outer), guards := gd, units := un } (call (.ref f) [.int lim lt]) Q E s :=
  TS p loose mean mg mb dp un gd env outer A₀ base h₀ L m s Q E k lim kt lt B F X T hf hke hdp (news_sub2 N hm hs) k0 k1 l0 l1 fun h' tk' r t kt' x hpl r0 r1 =>
    ret h' tk' r t kt' (fr_ext F N hm x) (fun all' U => news_ext N U x hpl) x hpl r0 r1

theorem sub_refl9 {TO : List (Addr × Obj)} : ∀ q ∈ TO, q ∈ TO := fun _ h => h
theorem sub_cons9 {TO Y : List (Addr × Obj)} {c : Addr × Obj} (h : ∀ q ∈ TO, q ∈ Y) : ∀ q ∈ TO, q ∈ c :: Y := fun q hq => .tail _ (h q hq)

theorem off3_addr {I C D : Addr} {a b : List (Addr × Obj)} (h : LCg.Off3 I C D a) (e : b.map (·.1) = a.map (·.1)) : LCg.Off3 I C D b := by
  refine LCg.Off3.of fun p hp => ?_
  have hm : p.1 ∈ a.map (·.1) := e ▸ List.mem_map.mpr ⟨p, hp, rfl⟩
  obtain ⟨q, hq, e2⟩ := List.mem_map.mp hm
  exact e2 ▸ h.mem q hq

theorem off1_mem {D : Addr} : ∀ {l : List (Addr × Obj)}, LCg.Off1 D l → ∀ p ∈ l, @Ne Nat p.1 D
  | [], _, _, h => nomatch h
  | _ :: _, x, p, h => by
    rcases List.mem_cons.mp h with rfl | h
    · exact x.1
    · exact off1_mem x.2 p h
theorem fresh_of {h g : Heap} {news : List (Addr × Obj)} {b : Addr} (GS : GSub h g (news.map (·.1))) (hg : g.get? b = none) (hn : ∀ q ∈ news, @Ne Nat q.1 b) : h.get? b = none := by
  cases e : h.get? b with
  | none => rfl
  | some o =>
    have := GS b o e (fun hb => by
      obtain ⟨q, hq, e2⟩ := List.mem_map.mp hb
      exact hn q hq e2)
    rw [hg] at this; cases this
end

section
set_option maxHeartbeats 200000
theorem News.one {h₀ h : Heap} {L : Addr} {p : Addr × Obj} {r : List (Addr × Obj)} (N : News h₀ L h (p :: r)) : News h₀ L h [p] := fun q hq => N q (by rw [List.mem_singleton.mp hq]; exact .head _)
structure Paused (P : Prop) : Prop where
  go : P
/-- the end of a turn -/
structure TurnNext (h₀ : Heap) (L I : Addr) (oI : Obj) (J : (Str → Option Value) → List (Addr × Obj) → Prop) (s₁ s₂ : Shared) : Prop where
  out : ∃ h' tk m₂ news₂, s₂ = { s₁ with heap := h', toks := tk } ∧ Fr h₀ L h' m₂ ∧ News h₀ L h' ((I, oI) :: news₂) ∧ (∀ p ∈ news₂, p.1 ≠ I) ∧ J m₂ news₂
def TurnEnd (h₀ : Heap) (L I : Addr) (oI : Obj) (J : (Str → Option Value) → List (Addr × Obj) → Prop) (s₁ : Shared) (Q : Flow → Shared → Prop) (f : Flow) (s₂ : Shared) : Prop :=
  match f with
  | .ret v => Q (.ret v) s₂
  | .brk => Q .next s₂
  | .next => TurnNext h₀ L I oI J s₁ s₂
  | .cont => TurnNext h₀ L I oI J s₁ s₂
theorem TurnNext.intro {h₀ h' : Heap} {L I : Addr} {oI : Obj} {J : (Str → Option Value) → List (Addr × Obj) → Prop} {s₁ : Shared} {tk : Nat} {m₂ : Str → Option Value} {news' : List (Addr × Obj)} (news₂ : List (Addr × Obj))
    (F : Fr h₀ L h' m₂) (N : News h₀ L h' news') (sub : ∀ p ∈ (I, oI) :: news₂, p ∈ news') (ne : ∀ p ∈ news₂, p.1 ≠ I) (hJ : J m₂ news₂) : TurnNext h₀ L I oI J s₁ { s₁ with heap := h', toks := tk } :=
  ⟨h', tk, m₂, news₂, rfl, F, fun p hp => N p (sub p hp), ne, hJ⟩

section
variable {prog : Program} {w : World} {A : Around} {s : Shared} {env : Env} {h₀ : Heap} {Q : Flow → Shared → Prop} {E : Value → Shared → Prop} {x : Str} {body : List Stmt} {m : Str → Option Value} {news : List (Addr × Obj)}
theorem for_range {r : Addr} {a b c : Int} {t u v : Tok} {n : Nat} (hh : A.handled = none) (hr : IsRange s.heap r a b c t u v) (hsm : Builtin.Range.small a b c = true) (hn : Builtin.Range.rangeSize a b c = ((n : Nat) : Int))
    (F : Fr h₀ env.locals s.heap m) (N : News h₀ env.locals s.heap news) (J : Nat → (Str → Option Value) → List (Addr × Obj) → Prop) (h0 : J 0 m news)
    (turn : ∀ i t I oI m₁ news₁ h tk, i < n → J i m₁ news₁ → (∀ p ∈ news₁, p.1 ≠ I) → I < h.objs.size → Fr h₀ env.locals h (fun y => if y = x then some (.int (a + (i : Int) * c) t) else m₁ y) → News h₀ env.locals h ((I, oI) :: news₁) →
      wpAny (model prog w) A (execs body env) (TurnEnd h₀ env.locals I oI (J (i + 1)) { s with heap := h, toks := tk } Q) E { s with heap := h, toks := tk })
    (done : ∀ m₁ news₁ h tk, J n m₁ news₁ → Fr h₀ env.locals h m₁ → News h₀ env.locals h news₁ → Q .next { s with heap := h, toks := tk }) :
    wpAny (model prog w) A (pyIter (.ref r)) (fun it s₂ => LoopAtV prog w A h₀ env x body Q E it s₂) E s := by
  refine wpAny_pyIter_range hr hsm ?_
  refine ⟨s.heap.objs.size, [s.heap.objs.size], [s.heap.objs.size], n, _, _, m, news, J, rfl, Walks.range hh s.heap.objs.size a c n, ?_, ?_, ?_, ?_, ?_, ?_, h0, ?_, ?_⟩
  · intro hm
    exact absurd F.ns.lt (by rw [List.mem_singleton.mp hm]; exact Nat.lt_irrefl _)
  · intro b hb
    rw [List.mem_singleton.mp hb]
    exact next_is_new F
  · intro p hp hI
    exact absurd (Heap.lt_size (N p hp).1) ((List.mem_singleton.mp hI) ▸ Nat.lt_irrefl _)
  · show IsRangeIter _ _ _ _ _
    rw [hn]
    simpa using Heap.get?_push_size _ rfl
  · exact F.push _
  · exact N.grown fun _ _ e => Heap.get?_push_of_some _ e
  · rintro i v m₁ news₁ s₁ own ⟨hh', tk', rfl⟩ hin ⟨tv, rfl⟩ hJ hoff hown hget hall hst F₁ N₁
    obtain ⟨oI, hst'⟩ : ∃ oI, hh'.get? s.heap.objs.size = some oI := ⟨_, hst⟩
    have hmem := hall s.heap.objs.size (by simp) (next_is_new F) _ hst'
    refine wpAny_mono (turn i tv s.heap.objs.size oI m₁ news₁ hh' tk' hin hJ (fun p hp => by simpa using hoff p hp) (Heap.lt_size hst') F₁ (fun p hp => ?_)) (fun f s₂ p => ?_) fun _ _ e => e
    · rcases List.mem_cons.mp hp with rfl | hp
      · exact N₁ _ (List.mem_append_left _ hmem)
      · exact N₁ _ (List.mem_append_right _ hp)
    · have fin : TurnNext h₀ env.locals s.heap.objs.size oI (J (i + 1)) { s with heap := hh', toks := tk' } s₂ → LoopStepU h₀ env.locals [s.heap.objs.size] own (J (i + 1)) { s with heap := hh', toks := tk' } .next s₂ := by
        rintro ⟨h', tk, m₂, news₂, rfl, F₂, N₂, ne, hJ₂⟩
        refine LoopStepU.intro F₂ (fun p hp => ?_) (fun p hp => by simpa using ne p hp) hJ₂
        rcases List.mem_append.mp hp with hp | hp
        · have e1 : p.1 = s.heap.objs.size := by simpa using hown p hp
          have e2 := hget p hp
          obtain ⟨pa, po⟩ := p
          dsimp only at e1 e2
          subst e1
          rw [hst'] at e2
          cases e2
          exact N₂ _ (.head _)
        · exact N₂ _ (.tail _ hp)
      cases f with
      | ret v => exact .ret p
      | brk => exact .brk p
      | next => exact .next (fin p)
      | cont => exact .cont (fin p)
  · rintro h' tk m' news' F' N' _ hJ
    exact done m' news' h' tk hJ F' N'

theorem pin1 {m₁ m₀ : Str → Option Value} {x a : Str} {v va : Option Value} (ha : m₁ a = va) (rest : ∀ z, z ≠ x → z ≠ a → m₁ z = m₀ z) :
    (fun y => if y = x then v else m₁ y) = fun y => if y = x then v else if y = a then va else m₀ y := by
  funext z
  by_cases h1 : z = x
  · simp [h1]
  · simp only [if_neg h1]
    by_cases h2 : z = a
    · subst h2; simp [ha]
    · simp only [if_neg h2]; exact rest z h1 h2
theorem pin2 {m₁ m₀ : Str → Option Value} {x a b : Str} {v va vb : Option Value} (ha : m₁ a = va) (hb : m₁ b = vb) (rest : ∀ z, z ≠ x → z ≠ a → z ≠ b → m₁ z = m₀ z) :
    (fun y => if y = x then v else m₁ y) = fun y => if y = x then v else if y = a then va else if y = b then vb else m₀ y := by
  funext z
  by_cases h1 : z = x
  · simp [h1]
  · simp only [if_neg h1]
    by_cases h2 : z = a
    · subst h2; simp [ha]
    · simp only [if_neg h2]
      by_cases h3 : z = b
      · subst h3; simp [hb]
      · simp only [if_neg h3]; exact rest z h1 h2 h3
theorem unpin {m₁ : Str → Option Value} (x : Str) : m₁ = fun y => if y = x then m₁ x else m₁ y := by
  funext z
  by_cases h : z = x
  · simp [h]
  · simp [h]

/-- a range, one int kept -/
theorem for_range1 {r : Addr} {a b c : Int} {t u v : Tok} {n : Nat} {y : Str} {a₀ : Int} {t₀ : Tok} (J : Nat → Int → List (Addr × Obj) → Prop)
    (hh : A.handled = none) (hr : IsRange s.heap r a b c t u v) (hsm : Builtin.Range.small a b c = true) (hn : Builtin.Range.rangeSize a b c = ((n : Nat) : Int))
    (F : Fr h₀ env.locals s.heap m) (N : News h₀ env.locals s.heap news) (hy : m y = some (.int a₀ t₀)) (h0 : J 0 a₀ news)
    (turn : ∀ i t st ts I oI news₁ h tk, i < n → J i st news₁ → (∀ p ∈ news₁, p.1 ≠ I) → I < h.objs.size → Fr h₀ env.locals h (fun z => if z = x then some (.int (a + (i : Int) * c) t) else if z = y then some (.int st ts) else m z) → News h₀ env.locals h ((I, oI) :: news₁) →
      wpAny (model prog w) A (execs body env) (TurnEnd h₀ env.locals I oI (fun m₂ news₂ => (∃ st' ts', m₂ y = some (.int st' ts') ∧ J (i + 1) st' news₂) ∧ ∀ z, z ≠ x → z ≠ y → m₂ z = m z) { s with heap := h, toks := tk } Q) E { s with heap := h, toks := tk })
    (done : ∀ o st ts news₁ h tk, J n st news₁ → Fr h₀ env.locals h (fun z => if z = x then o else if z = y then some (.int st ts) else m z) → News h₀ env.locals h news₁ → Q .next { s with heap := h, toks := tk }) :
    wpAny (model prog w) A (pyIter (.ref r)) (fun it s₂ => LoopAtV prog w A h₀ env x body Q E it s₂) E s := by
  refine for_range hh hr hsm hn F N (fun i m₂ news₂ => (∃ st' ts', m₂ y = some (.int st' ts') ∧ J i st' news₂) ∧ ∀ z, z ≠ x → z ≠ y → m₂ z = m z) ⟨⟨a₀, t₀, hy, h0⟩, fun _ _ _ => rfl⟩ ?_ ?_
  · rintro i t I oI m₁ news₁ h tk hi ⟨⟨st, ts, e, hJ⟩, rest⟩ ne hI F₁ N₁
    rw [pin1 e rest] at F₁
    exact turn i t st ts I oI news₁ h tk hi hJ ne hI F₁ N₁
  · rintro m₁ news₁ h tk ⟨⟨st, ts, e, hJ⟩, rest⟩ F₁ N₁
    rw [unpin (m₁ := m₁) x, pin1 e rest] at F₁
    exact done _ st ts news₁ h tk hJ F₁ N₁

/-- a range, two ints kept -/
theorem for_range2 {r : Addr} {a b c : Int} {t u v : Tok} {n : Nat} {y y' : Str} {a₀ b₀ : Int} {t₀ t₀' : Tok} (J : Nat → Int → Int → List (Addr × Obj) → Prop)
    (hh : A.handled = none) (hr : IsRange s.heap r a b c t u v) (hsm : Builtin.Range.small a b c = true) (hn : Builtin.Range.rangeSize a b c = ((n : Nat) : Int))
    (F : Fr h₀ env.locals s.heap m) (N : News h₀ env.locals s.heap news) (hy : m y = some (.int a₀ t₀)) (hy' : m y' = some (.int b₀ t₀')) (h0 : J 0 a₀ b₀ news)
    (turn : ∀ i t st ts bt bs I oI news₁ h tk, i < n → J i st bt news₁ → (∀ p ∈ news₁, p.1 ≠ I) → I < h.objs.size → Fr h₀ env.locals h (fun z => if z = x then some (.int (a + (i : Int) * c) t) else if z = y then some (.int st ts) else if z = y' then some (.int bt bs) else m z) → News h₀ env.locals h ((I, oI) :: news₁) →
      wpAny (model prog w) A (execs body env) (TurnEnd h₀ env.locals I oI (fun m₂ news₂ => (∃ st' ts' bt' bs', m₂ y = some (.int st' ts') ∧ m₂ y' = some (.int bt' bs') ∧ J (i + 1) st' bt' news₂) ∧ ∀ z, z ≠ x → z ≠ y → z ≠ y' → m₂ z = m z) { s with heap := h, toks := tk } Q) E { s with heap := h, toks := tk })
    (done : ∀ o st ts bt bs news₁ h tk, J n st bt news₁ → Fr h₀ env.locals h (fun z => if z = x then o else if z = y then some (.int st ts) else if z = y' then some (.int bt bs) else m z) → News h₀ env.locals h news₁ → Q .next { s with heap := h, toks := tk }) :
    wpAny (model prog w) A (pyIter (.ref r)) (fun it s₂ => LoopAtV prog w A h₀ env x body Q E it s₂) E s := by
  refine for_range hh hr hsm hn F N (fun i m₂ news₂ => (∃ st' ts' bt' bs', m₂ y = some (.int st' ts') ∧ m₂ y' = some (.int bt' bs') ∧ J i st' bt' news₂) ∧ ∀ z, z ≠ x → z ≠ y → z ≠ y' → m₂ z = m z) ⟨⟨a₀, t₀, b₀, t₀', hy, hy', h0⟩, fun _ _ _ _ => rfl⟩ ?_ ?_
  · rintro i t I oI m₁ news₁ h tk hi ⟨⟨st, ts, bt, bs, e, e', hJ⟩, rest⟩ ne hI F₁ N₁
    rw [pin2 e e' rest] at F₁
    exact turn i t st ts bt bs I oI news₁ h tk hi hJ ne hI F₁ N₁
  · rintro m₁ news₁ h tk ⟨⟨st, ts, bt, bs, e, e', hJ⟩, rest⟩ F₁ N₁
    rw [unpin (m₁ := m₁) x, pin2 e e' rest] at F₁
    exact done _ st ts bt bs news₁ h tk hJ F₁ N₁

theorem for_list {l : Addr} {its : Array Value} (hh : A.handled = none) (hl : h₀.IsList l its)
    (F : Fr h₀ env.locals s.heap m) (N : News h₀ env.locals s.heap news) (J : Nat → (Str → Option Value) → List (Addr × Obj) → Prop) (h0 : J 0 m news)
    (turn : ∀ i v I oI m₁ news₁ h tk, its[i]? = some v → J i m₁ news₁ → (∀ p ∈ news₁, p.1 ≠ I) → I < h.objs.size → Fr h₀ env.locals h (fun y => if y = x then some v else m₁ y) → News h₀ env.locals h ((I, oI) :: news₁) →
      wpAny (model prog w) A (execs body env) (TurnEnd h₀ env.locals I oI (J (i + 1)) { s with heap := h, toks := tk } Q) E { s with heap := h, toks := tk })
    (done : ∀ m₁ news₁ h tk, J its.size m₁ news₁ → Fr h₀ env.locals h m₁ → News h₀ env.locals h news₁ → Q .next { s with heap := h, toks := tk }) :
    wpAny (model prog w) A (pyIter (.ref l)) (fun it s₂ => LoopAtV prog w A h₀ env x body Q E it s₂) E s := by
  have hls : s.heap.IsList l its := hl.at fun o e => F.keep l o e
  obtain ⟨ol, hol, _⟩ := id hl
  have hlt : l < h₀.objs.size := Heap.lt_size hol
  have hne : l ≠ s.heap.objs.size := Nat.ne_of_lt (Nat.lt_trans (Nat.lt_of_lt_of_le hlt F.above) F.ns.lt)
  refine wpAny_pyIter_list hls ?_
  refine ⟨s.heap.objs.size, [s.heap.objs.size, l], [s.heap.objs.size], its.size, _, _, m, news, J, rfl, Walks.list hh s.heap.objs.size l hne its, ?_, ?_, ?_, ⟨⟨_, Heap.get?_push_size _ rfl, rfl, rfl⟩, hls.at fun o e => Heap.get?_push_of_some _ e⟩, ?_, ?_, h0, ?_, ?_⟩
  · intro hm
    rcases List.mem_cons.mp hm with e | hm
    · exact absurd F.ns.lt (e ▸ Nat.lt_irrefl _)
    · exact absurd (Nat.lt_of_lt_of_le hlt F.above) ((List.mem_singleton.mp hm) ▸ Nat.lt_irrefl _)
  · intro b hb
    rw [List.mem_singleton.mp hb]
    exact next_is_new F
  · intro p hp hI
    exact absurd (Heap.lt_size (N p hp).1) ((List.mem_singleton.mp hI) ▸ Nat.lt_irrefl _)
  · exact F.push _
  · exact N.grown fun _ _ e => Heap.get?_push_of_some _ e
  · rintro i v m₁ news₁ s₁ own ⟨hh', tk', rfl⟩ hin hP hJ hoff hown hget hall hst F₁ N₁
    obtain ⟨oI, hst', _⟩ := hst.1
    have hmem := hall s.heap.objs.size (by simp) (next_is_new F) _ hst'
    refine wpAny_mono (turn i v s.heap.objs.size oI m₁ news₁ hh' tk' (by simpa using hP) hJ (fun p hp => by simpa using hoff p hp) (Heap.lt_size hst') F₁ (fun p hp => ?_)) (fun f s₂ p => ?_) fun _ _ e => e
    · rcases List.mem_cons.mp hp with rfl | hp
      · exact N₁ _ (List.mem_append_left _ hmem)
      · exact N₁ _ (List.mem_append_right _ hp)
    · have fin : TurnNext h₀ env.locals s.heap.objs.size oI (J (i + 1)) { s with heap := hh', toks := tk' } s₂ → LoopStepU h₀ env.locals [s.heap.objs.size] own (J (i + 1)) { s with heap := hh', toks := tk' } .next s₂ := by
        rintro ⟨h', tk, m₂, news₂, rfl, F₂, N₂, ne, hJ₂⟩
        refine LoopStepU.intro F₂ (fun p hp => ?_) (fun p hp => by simpa using ne p hp) hJ₂
        rcases List.mem_append.mp hp with hp | hp
        · have e1 : p.1 = s.heap.objs.size := by
            rcases List.mem_cons.mp (hown p hp) with e | e
            · exact e
            · exfalso
              have e3 := (N₁ p (List.mem_append_left _ hp)).2.2
              rw [List.mem_singleton.mp e, hol] at e3
              cases e3
          have e2 := hget p hp
          obtain ⟨pa, po⟩ := p
          dsimp only at e1 e2
          subst e1
          rw [hst'] at e2
          cases e2
          exact N₂ _ (.head _)
        · exact N₂ _ (.tail _ hp)
      cases f with
      | ret v => exact .ret p
      | brk => exact .brk p
      | next => exact .next (fin p)
      | cont => exact .cont (fin p)
  · rintro h' tk m' news' F' N' _ hJ
    exact done m' news' h' tk hJ F' N'

/-- a list of the base, one int kept -/
theorem for_list1 {l : Addr} {its : Array Value} {y : Str} {a₀ : Int} {t₀ : Tok} (J : Nat → Int → List (Addr × Obj) → Prop)
    (hh : A.handled = none) (hl : h₀.IsList l its)
    (F : Fr h₀ env.locals s.heap m) (N : News h₀ env.locals s.heap news) (hy : m y = some (.int a₀ t₀)) (h0 : J 0 a₀ news)
    (turn : ∀ i v st ts I oI news₁ h tk, its[i]? = some v → J i st news₁ → (∀ p ∈ news₁, p.1 ≠ I) → I < h.objs.size → Fr h₀ env.locals h (fun z => if z = x then some v else if z = y then some (.int st ts) else m z) → News h₀ env.locals h ((I, oI) :: news₁) →
      wpAny (model prog w) A (execs body env) (TurnEnd h₀ env.locals I oI (fun m₂ news₂ => (∃ st' ts', m₂ y = some (.int st' ts') ∧ J (i + 1) st' news₂) ∧ ∀ z, z ≠ x → z ≠ y → m₂ z = m z) { s with heap := h, toks := tk } Q) E { s with heap := h, toks := tk })
    (done : ∀ o st ts news₁ h tk, J its.size st news₁ → Fr h₀ env.locals h (fun z => if z = x then o else if z = y then some (.int st ts) else m z) → News h₀ env.locals h news₁ → Q .next { s with heap := h, toks := tk }) :
    wpAny (model prog w) A (pyIter (.ref l)) (fun it s₂ => LoopAtV prog w A h₀ env x body Q E it s₂) E s := by
  refine for_list hh hl F N (fun i m₂ news₂ => (∃ st' ts', m₂ y = some (.int st' ts') ∧ J i st' news₂) ∧ ∀ z, z ≠ x → z ≠ y → m₂ z = m z) ⟨⟨a₀, t₀, hy, h0⟩, fun _ _ _ => rfl⟩ ?_ ?_
  · rintro i v I oI m₁ news₁ h tk hi ⟨⟨st, ts, e, hJ⟩, rest⟩ ne hI F₁ N₁
    rw [pin1 e rest] at F₁
    exact turn i v st ts I oI news₁ h tk hi hJ ne hI F₁ N₁
  · rintro m₁ news₁ h tk ⟨⟨st, ts, e, hJ⟩, rest⟩ F₁ N₁
    rw [unpin (m₁ := m₁) x, pin1 e rest] at F₁
    exact done _ st ts news₁ h tk hJ F₁ N₁
end

section
open LCg LCt
variable {prog : Program} {w : World} {A : Around} {s : Shared} {env : Env} {h₀ : Heap} {L : Addr} {m : Str → Option Value} {ct elt : PySem.Expr} {x : Str} {scope : Scope} {cl : List (Str × Addr)} {S : List (Addr × Obj) → Prop} {P : Nat → Value → Prop}
  {Fin : List Value → List (Addr × Obj) → Prop} {news : List (Addr × Obj)}
theorem comp_rest {n : Nat} (J : Nat → List Value → List (Addr × Obj) → Prop) (h0 : J 0 [] news)
    (turn : ∀ i v I oI C oC D m₂ ys news h tk (E' : Value → Shared → Prop), i < n → P i v → J i ys news → NsObj oC m₂ → m₂ x = some v → Fr h₀ L h m → News h₀ L h ((I, oI) :: (C, oC) :: (D, lst ys) :: news) → Off3 I C D news → ((@Ne Nat I C) ∧ (@Ne Nat I D) ∧ (@Ne Nat C D)) →
      wpAny (model prog w) A (eval elt (compEnvC scope cl C env)) (CompEnd h₀ L m { s with heap := h, toks := tk } I oI C oC D (lst ys) S (fun y news' => J (i + 1) (ys ++ [y]) news')) E' { s with heap := h, toks := tk })
    (fin : ∀ ys news, J n ys news → Fin ys news) : CompRest prog w A h₀ L m env elt x scope cl s S P Fin n 0 [] news := by
  have key : ∀ (j i : Nat) (ys : List Value) (news : List (Addr × Obj)), i + j = n → J i ys news → CompRest prog w A h₀ L m env elt x scope cl s S P Fin j i ys news := by
    intro j
    induction j with
    | zero =>
      intro i ys news hi hy
      have e : i = n := by omega
      subst e
      exact CompRest.zero (fin ys news hy)
    | succ j ih =>
      intro i ys news hi hy
      refine CompRest.succ ?_
      intro v I oI C oC D m₂ h tk E' hv hC hx F N off ne
      refine wpAny_mono (turn i v I oI C oC D m₂ ys news h tk E' (by omega) hv hy hC hx F N off ne) (fun y s₂ hq => ?_) fun _ _ e => e
      obtain ⟨h', tk', nw, e, F', N', off', hS, hn⟩ := hq
      exact ⟨h', tk', nw, e, F', N', off', hS, ih (i + 1) _ nw (by omega) hn⟩
  exact key n 0 [] news (by omega) h0
theorem comp_restT {n : Nat} (J : Nat → List Value → List (Addr × Obj) → Prop) (h0 : J 0 [] news)
    (turn : ∀ i v I oI C oC D m₂ ys news h tk (E' : Value → Shared → Prop), i < n → P i v → J i ys news → NsObj oC m₂ → m₂ x = some v → Fr h₀ L h m → News h₀ L h ((I, oI) :: (C, oC) :: (D, lst ys) :: news) → Off3 I C D news → ((@Ne Nat I C) ∧ (@Ne Nat I D) ∧ (@Ne Nat C D)) →
      wpAny (model prog w) A (isTrue ct (compEnvC scope cl C env) (eval ct (compEnvC scope cl C env))) (fun ok s' => if ok = true then
        wpAny (model prog w) A (eval elt (compEnvC scope cl C env)) (CompEnd h₀ L m { s with heap := h, toks := tk } I oI C oC D (lst ys) S (fun y news' => J (i + 1) (ys ++ [y]) news')) E' s'
        else CompEnd h₀ L m { s with heap := h, toks := tk } I oI C oC D (lst ys) S (fun _ news' => J (i + 1) ys news') Value.none s') E' { s with heap := h, toks := tk })
    (fin : ∀ ys news, J n ys news → Fin ys news) : CompRestT prog w A h₀ L m env ct elt x scope cl s S P Fin n 0 [] news := by
  have key : ∀ (j i : Nat) (ys : List Value) (news : List (Addr × Obj)), i + j = n → J i ys news → CompRestT prog w A h₀ L m env ct elt x scope cl s S P Fin j i ys news := by
    intro j
    induction j with
    | zero =>
      intro i ys news hi hy
      have e : i = n := by omega
      subst e
      exact CompRestT.zero (fin ys news hy)
    | succ j ih =>
      intro i ys news hi hy
      refine CompRestT.succ ?_
      intro v I oI C oC D m₂ h tk E' hv hC hx F N off ne
      have step : ∀ (y : Value) (s₂ : Shared) (zs : List Value), CompEnd h₀ L m { s with heap := h, toks := tk } I oI C oC D (lst ys) S (fun _ news' => J (i + 1) zs news') y s₂ → CompEnd h₀ L m { s with heap := h, toks := tk } I oI C oC D (lst ys) S (fun _ news' => CompRestT prog w A h₀ L m env ct elt x scope cl s S P Fin j (i + 1) zs news') y s₂ := by
        rintro y s₂ zs ⟨h', tk', nw, e, F', N', off', hS, hn⟩
        exact ⟨h', tk', nw, e, F', N', off', hS, ih (i + 1) _ nw (by omega) hn⟩
      refine wpAny_mono (turn i v I oI C oC D m₂ ys news h tk E' (by omega) hv hy hC hx F N off ne) (fun ok s₂ hq => ?_) fun _ _ e => e
      cases ok with
      | true =>
        simp only [if_true] at hq ⊢
        refine wpAny_mono hq (fun y s₃ hq' => ?_) fun _ _ e => e
        exact step y s₃ (ys ++ [y]) hq'
      | false =>
        simp only [Bool.false_eq_true, if_false] at hq ⊢
        exact step _ s₂ ys hq
  exact key n 0 [] news (by omega) h0
end
-- what a stretch of the walk must show stands as a letter while it is walked: smaller terms
theorem wp_gen {α : Type} {M : Model} {A : Around} {c : Sem α} {Q : α → Shared → Prop} {E : Value → Shared → Prop} {s : Shared} (h : ∀ Q', Q' = Q → wpAny M A c Q' E s) : wpAny M A c Q E s := h _ rfl
theorem wp_gen2 {α : Type} {M : Model} {A : Around} {env : Env} {c : Sem α} {Q : α → Shared → Prop} {E : Value → Shared → Prop} {s : Shared} (hE : PassesOwn M A env E)
    (h : ∀ Q' E', Q' = Q → E' = E → PassesOwn M A env E' → wpAny M A c Q' E' s) : wpAny M A c Q E s := h _ _ rfl rfl hE
end

section
set_option maxHeartbeats 200000
open PySem PySem.W PySem.Spec PySem.Calls PyProof.Rows
section
variable {prog : Program} {w : World} {A₀ A : Around} {s : Shared} {base h₀ : Heap} {outer : List Env} {L : Addr} {m : Str → Option Value} {env : Env} {K : Frag} {p : Program} {loose : List Str} {mean : ExcName → Option Value} {mg mb : Str → Option Value}
  {R : Result → Shared → Prop} {name qual : Str} {params : Arguments} {body : List Stmt} {scope : Scope} {dV kV doc pm cdv ct oc : Value} {an od : Option Addr} {osl : Array (Option Value)} {f : Addr} {args : Args} {binds : List (Str × Value)}
/-- a def with cells is entered: the ground is the whole heap of the call -/
theorem enterC (B : Below A₀ base outer h₀) (F : Fr h₀ L s.heap m) (X₀ : K.In h₀) (T : Top p loose mean mg mb h₀) (hA : A.frames = some (env :: outer)) (hf : env.frame = some L) (hke : env.scope.kind = .function)
    (ho : K.lookup f = some ⟨oc, od, .func (fnOf name qual params body scope dV kV doc pm an cdv ct), osl⟩) (hcd : codeIn K cdv qual = true) (hroom : A.depth < recursionLimit)
    (hbind : BindsTo s (fnOf name qual params body scope dV kV doc pm an cdv ct) args binds) (hkind : (binds.all fun y => scope.names.lookup y.1 == some .local || scope.names.lookup y.1 == some .cell) = true)
    (hnd : ((cellsFrom 0 scope.names []).map (·.1)).Nodup)
    (h : ∀ g L' h₁ tk cells, g = s.heap → L' = s.heap.objs.size → Fr g L' h₁ (bindL (envOfC qual scope L' f cdv).kindOf binds fun _ => none) → News g L' h₁ cells →
      CellsAre (bindC (envOfC qual scope L' f cdv).kindOf binds fun _ => none) (cellsFrom (L' + 1) scope.names []) cells → Below A base (env :: outer) g → K.In g → Top p loose mean mg mb g →
      wpAny (model prog w) (A.deeper (envOfC qual scope L' f cdv)) (execs body (envOfC qual scope L' f cdv))
        (fun fl s' => R (.ok (.ret (match fl with | .ret v => v | _ => .none))) s')
        (fun e s' => wpAny (model prog w) (A.deeper (envOfC qual scope L' f cdv)) (leaving (envOfC qual scope L' f cdv) e) (fun _ s'' => R (.error e) s'') (fun e' s'' => R (.error e') s'') s')
        { s with heap := h₁, toks := tk })
    (hco : scope.isCoroutine = false) (hgen : scope.isGenerator = false) (hk : scope.kind = .function) : codeAny (model prog w) A (.call (.ref f) args) R s := by
  have G := groundX (R := R) B F News.nil hA hf hke
  have k0 : h₀.StaysIn s.heap := F.keep
  have old := X₀.keeps k0
  refine codeAny_call_function hroom (old _ _ ho) rfl hco hgen rfl (codeRec_of old hcd) (hbind _ _ _ _ ?_)
  refine wpAny_newFunctionEnv_cells hk (kindsX hkind _) fun env' he s' x => ?_
  subst he
  have kk := x.toInCall.keep
  refine ⟨(T.nolimit.keeps k0).keeps kk, codeAny_func ?_⟩
  obtain ⟨h₁, tk, rfl, _⟩ := x.done
  obtain ⟨cells, NC, Y⟩ := Cl.news (h₀ := s.heap) (Nat.le_refl _) fun n c hm => ⟨x.cell n c (lookup_of_mem_nodup (cellsFrom_names scope.names 0 (s.heap.objs.size + 1) [] [] rfl ▸ hnd) hm), x.above n c hm⟩
  exact h s.heap s.heap.objs.size h₁ tk cells rfl rfl ⟨x.toInCall.ns, kk, Nat.le_refl _⟩ NC Y G.2.1 old (T.keeps k0)

/-- a def with cells is entered, some objects of the caller's still in hand -/
theorem enterCN {news : List (Addr × Obj)} (B : Below A₀ base outer h₀) (F : Fr h₀ L s.heap m) (X₀ : K.In h₀) (N : News h₀ L s.heap news) (T : Top p loose mean mg mb h₀) (hA : A.frames = some (env :: outer)) (hf : env.frame = some L) (hke : env.scope.kind = .function)
    (ho : K.lookup f = some ⟨oc, od, .func (fnOf name qual params body scope dV kV doc pm an cdv ct), osl⟩) (hcd : codeIn K cdv qual = true) (hroom : A.depth < recursionLimit)
    (hbind : BindsTo s (fnOf name qual params body scope dV kV doc pm an cdv ct) args binds) (hkind : (binds.all fun y => scope.names.lookup y.1 == some .local || scope.names.lookup y.1 == some .cell) = true)
    (hnd : ((cellsFrom 0 scope.names []).map (·.1)).Nodup)
    (h : ∀ g L' h₁ tk cells, GSub s.heap g (news.map (·.1)) → Fr g L' h₁ (bindL (envOfC qual scope L' f cdv).kindOf binds fun _ => none) → News g L' h₁ (cells ++ news) →
      CellsAre (bindC (envOfC qual scope L' f cdv).kindOf binds fun _ => none) (cellsFrom (L' + 1) scope.names []) cells → Below A base (env :: outer) g → K.In g → Top p loose mean mg mb g → (∀ q ∈ news, q.1 < L') →
      wpAny (model prog w) (A.deeper (envOfC qual scope L' f cdv)) (execs body (envOfC qual scope L' f cdv))
        (fun fl s' => LeaveK h₀ L m g R (match fl with | .ret v => v | _ => .none) s')
        (fun e s' => wpAny (model prog w) (A.deeper (envOfC qual scope L' f cdv)) (leaving (envOfC qual scope L' f cdv) e) (fun _ s'' => R (.error e) s'') (fun e' s'' => R (.error e') s'') s')
        { s with heap := h₁, toks := tk })
    (hco : scope.isCoroutine = false) (hgen : scope.isGenerator = false) (hk : scope.kind = .function) : codeAny (model prog w) A (.call (.ref f) args) R s := by
  obtain ⟨FG, BG, st, lv⟩ := groundX (R := R) B F N hA hf hke
  have old := X₀.keeps F.keep
  refine codeAny_call_function hroom (old _ _ ho) rfl hco hgen rfl (codeRec_of old hcd) (hbind _ _ _ _ ?_)
  refine wpAny_newFunctionEnv_cells hk (kindsX hkind _) fun env' he s' x => ?_
  subst he
  have kk := x.toInCall.keep
  refine ⟨(T.nolimit.keeps F.keep).keeps kk, codeAny_func ?_⟩
  obtain ⟨h₁, tk, rfl, _⟩ := x.done
  obtain ⟨cells, NC, Y⟩ := Cl.news (h₀ := s.heap) (Nat.le_refl _) fun n c hm => ⟨x.cell n c (lookup_of_mem_nodup (cellsFrom_names scope.names 0 (s.heap.objs.size + 1) [] [] rfl ▸ hnd) hm), x.above n c hm⟩
  have gone : ∀ b, s.heap.get? b = none → (hideAll s.heap (news.map (·.1))).get? b = none := fun b e => by
    cases q : (hideAll s.heap (news.map (·.1))).get? b with
    | none => rfl
    | some o => have := of_hideAll _ q; rw [e] at this; cases this
  refine wpAny_mono (h _ s.heap.objs.size h₁ tk cells (fun b o e n => hideAll_get _ e n) ⟨x.toInCall.ns, fun b o e => kk b o (of_hideAll _ e), Nat.le_of_eq (hideAll_size _ _)⟩ (fun p hp => ?_) Y BG (X₀.keeps st) (T.keeps st) (fun q hq => Heap.lt_size (N q hq).1))
    (fun fl s' hl => lv _ _ hl) fun _ _ y => y
  rcases List.mem_append.mp hp with hp | hp
  · exact ⟨(NC p hp).1, (NC p hp).2.1, gone _ (NC p hp).2.2⟩
  · exact ⟨kk _ _ (N p hp).1, Nat.ne_of_lt (Heap.lt_size (N p hp).1), hideAll_none _ (List.mem_map_of_mem hp)⟩

/-- a made function is entered, some objects of the caller's still in hand -/
theorem enterXN {news : List (Addr × Obj)} {cl : List (Str × Addr)} {fo : Obj} (B : Below A₀ base outer h₀) (F : Fr h₀ L s.heap m) (X₀ : K.In h₀) (N : News h₀ L s.heap news) (T : Top p loose mean mg mb h₀) (hA : A.frames = some (env :: outer)) (hf : env.frame = some L) (hke : env.scope.kind = .function)
    (ho : (f, fo) ∈ news) (hd : fo.data = .func (fnX name qual params body scope cl dV kV doc pm an cdv ct)) (hcd : s.heap.CodeRec cdv qual) (hroom : A.depth < recursionLimit)
    (hbind : BindsTo s (fnX name qual params body scope cl dV kV doc pm an cdv ct) args binds) (hloc : ∀ y ∈ binds, scope.names.lookup y.1 = some .local)
    (h : ∀ g L' h₁, GSub s.heap g (news.map (·.1)) → Fr g L' h₁ (fun y => binds.reverse.lookup y) → News g L' h₁ news → Below A base (env :: outer) g → K.In g → Top p loose mean mg mb g → (∀ q ∈ news, q.1 < L') →
      wpAny (model prog w) (A.deeper (envX qual scope L' f cdv cl)) (execs body (envX qual scope L' f cdv cl))
        (fun fl s' => LeaveK h₀ L m g R (match fl with | .ret v => v | _ => .none) s')
        (fun e s' => wpAny (model prog w) (A.deeper (envX qual scope L' f cdv cl)) (leaving (envX qual scope L' f cdv cl) e) (fun _ s'' => R (.error e) s'') (fun e' s'' => R (.error e') s'') s')
        { s with heap := h₁, toks := s.toks + binds.length })
    (hcell : ∀ x ∈ scope.names, x.2 ≠ .cell) (hco : scope.isCoroutine = false) (hgen : scope.isGenerator = false) (hk : scope.kind = .function) : codeAny (model prog w) A (.call (.ref f) args) R s := by
  obtain ⟨FG, BG, st, lv⟩ := groundX (R := R) B F N hA hf hke
  refine codeAny_call_def (fd := fnX name qual params body scope cl dV kV doc pm an cdv ct) (body := body) (binds := binds) hroom (N _ ho).1 hd (T.nolimit.keeps F.keep) hcd rfl hbind hcell hloc (fun h₁ hns hk₁ => ?_) hco hgen hk
  exact wpAny_mono (h _ s.heap.objs.size h₁ (fun b o e n => hideAll_get _ e n) ⟨hns, fun b o e => hk₁ b o (of_hideAll _ e), Nat.le_of_eq (hideAll_size _ _)⟩
    (fun p hp => ⟨hk₁ _ _ (N p hp).1, Nat.ne_of_lt (Heap.lt_size (N p hp).1), hideAll_none _ (List.mem_map_of_mem hp)⟩) BG (X₀.keeps st) (T.keeps st) (fun p hp => Heap.lt_size (N p hp).1)) (fun fl s' hl => lv _ _ hl) fun _ _ y => y
end
end

section
local macro_rules | `(tactic| k_inst) => `(tactic| exact instAt_keeps (by assumption) (Fr.keep (by assumption)))
local macro_rules | `(tactic| k_room) => `(tactic| (show (_ : Nat) < _; dsimp only [Around.deeper, Around.in1]; omega))
local macro_rules | `(tactic| walk_at "ite") => `(tactic| k_dflt (first | (refine ite_pos (by (try simp only [decide_eq_true_eq, beq_iff_eq, bne_iff_ne, ne_eq]); omega) ?_) | (refine ite_neg (by (try simp only [decide_eq_true_eq, beq_iff_eq, bne_iff_ne, ne_eq]); omega) ?_)))
local macro_rules | `(tactic| walk_at "subscriptTail Attribute Name Name ref int") => `(tactic| (k_here; (with_reducible show wpAny _ _ (subscriptTail _ _ (Value.ref _) (Value.int _ _)) _ _ _); k_dflt (refine' item_any ?k1 ?k2 ?k3 ?k4 ?_ ?k6; (case k1 => exact stays_list (Fr.keep (by assumption)) (by assumption)); (case k4 => assumption); (case k2 => first | with_reducible assumption | omega); (case k3 => first | with_reducible assumption | omega); (case k6 => with_unfolding_all rfl); k_whole)))
section
set_option maxHeartbeats 8000000

theorem step_ok {w : World} {p : Program} {loose : List Str} {mean : ExcName → Option Value} {mg mb : Str → Option Value} {dp un : Nat} {gd : Option (List Code)} {env : Env} {outer : List Env}
    {A₀ : Around} {base h₀ : Heap} {L : Addr} {m : Str → Option Value} {s : Shared} {Q E : Value → Shared → Prop}
    (B : Below A₀ base outer h₀) (F : Fr h₀ L s.heap m) (X : (hd.heap_1 w.params).In h₀) (T : Top p loose mean mg mb h₀) (hf : env.frame = some L) (hke : env.scope.kind = .function) (hdp : dp < 900)
    {x : Addr} {a : Aut} (D : DfaAt s.heap x a) (ok : a.Ok) {st n : Int} {t1 t2 : Tok} (hst : a.In st) (hn : 0 ≤ n ∧ n < 3)
    (ret : ∀ h' tk' r t, s.heap.StaysIn h' → r = a.step st n → Q (.int r t) { s with heap := h', toks := tk' }) :
    wpAny (model Challenge.rw_ok0116_01.row.prog w) { handled := none, depth := dp, frames := some (env :: outer), guards := gd, units := un } (call (.ref 56) [.ref x, .int st t1, .int n t2]) Q E s := by
  w_top off
  revert X; k_fill; intro X
  refine wpAny_call ?_
  refine' code_defG (news := []) B F X News.nil T rfl hf hke ?k6 ?k7 ?k8 ?k9 ?kB ?_ ?c2 ?c3 ?c4 ?c5
  (case k6 => k_is)
  (case k7 => k_is)
  (case k8 => (show dp < recursionLimit; unfold recursionLimit; omega))
  (case k9 => exact BindsTo.of_eq rfl)
  (case c5 => decide)
  (case kB => exact locs rfl)
  (case c2 => exact rfl)
  (case c3 => exact rfl)
  (case c4 => exact rfl)
  intro g L' h₁ FG F' N' B' X' T' GS
  have k0 : s.heap.StaysIn g := fun b o e => GS b o e (by simp)
  have D' := D.keeps k0
  obtain ⟨dx, nn, rl, gl, u1, u2, e1, e2, rows, tags, I, hrl, hgl, hR, hT⟩ := D'.at_
  clear D'
  obtain ⟨hlen, hrow⟩ := hR
  obtain ⟨i1, i2⟩ := hst
  by_cases hs : st = -1
  · subst hs
    try k_fold
    k_steps
    refine ret _ _ _ _ (fun b o e => Fr.keep (h₀ := g) (by assumption) b o (k0 b o e)) ?_
    simp [Aut.step]
  · obtain ⟨r, hr⟩ : ∃ r, a.rows[st.toNat]? = some r := ⟨_, List.getElem?_eq_getElem (by omega)⟩
    obtain ⟨row, its, hrw, hL, hI⟩ := hrow _ _ hr
    have hr3 := ok.cols _ _ hr
    have hil := hI.length
    have h3 := ok.three
    try k_fold
    k_steps
    refine ret _ _ _ _ (fun b o e => Fr.keep (h₀ := g) (by assumption) b o (k0 b o e)) ?_
    exact Aut.step_row hr (by omega) (by omega)
end

section
set_option maxHeartbeats 8000000
local macro_rules | `(tactic| walk_at "no such step") => `(tactic| fail "no such step")

theorem final_ok {w : World} {p : Program} {loose : List Str} {mean : ExcName → Option Value} {mg mb : Str → Option Value} {dp un : Nat} {gd : Option (List Code)} {env : Env} {outer : List Env}
    {A₀ : Around} {base h₀ : Heap} {L : Addr} {m : Str → Option Value} {s : Shared} {Q E : Value → Shared → Prop}
    (B : Below A₀ base outer h₀) (F : Fr h₀ L s.heap m) (X : (hd.heap_1 w.params).In h₀) (T : Top p loose mean mg mb h₀) (hf : env.frame = some L) (hke : env.scope.kind = .function) (hdp : dp < 900)
    {x : Addr} {a : Aut} (D : DfaAt s.heap x a) (ok : a.Ok) {st : Int} {t1 : Tok} (hst : a.In st)
    (ret : ∀ h' tk' r, s.heap.StaysIn h' → r = a.fin st → Q (.bool r) { s with heap := h', toks := tk' }) :
    wpAny (model Challenge.rw_ok0116_01.row.prog w) { handled := none, depth := dp, frames := some (env :: outer), guards := gd, units := un } (call (.ref 159) [.ref x, .int st t1]) Q E s := by
  w_top off
  revert X; k_fill; intro X
  refine wpAny_call ?_
  refine' code_defG (news := []) B F X News.nil T rfl hf hke ?k6 ?k7 ?k8 ?k9 ?kB ?_ ?c2 ?c3 ?c4 ?c5
  (case k6 => k_is)
  (case k7 => k_is)
  (case k8 => (show dp < recursionLimit; unfold recursionLimit; omega))
  (case k9 => exact BindsTo.of_eq rfl)
  (case c5 => decide)
  (case kB => exact locs rfl)
  (case c2 => exact rfl)
  (case c3 => exact rfl)
  (case c4 => exact rfl)
  intro g L' h₁ FG F' N' B' X' T' GS
  have k0 : s.heap.StaysIn g := fun b o e => GS b o e (by simp)
  have D' := D.keeps k0
  obtain ⟨dx, nn, rl, gl, u1, u2, e1, e2, rows, tags, I, hrl, hgl, hR, hT⟩ := D'.at_
  clear D'
  obtain ⟨hlen, htag⟩ := hT
  obtain ⟨i1, i2⟩ := hst
  have h3 := ok.three
  have h4 := ok.same
  by_cases hs : st = -1
  · subst hs
    try k_fold
    k_steps
    exact ret _ _ _ (fun b o e => Fr.keep (h₀ := g) (by assumption) b o (k0 b o e)) rfl
  · obtain ⟨r, hr⟩ : ∃ r, a.tags[st.toNat]? = some r := ⟨_, List.getElem?_eq_getElem (by omega)⟩
    obtain ⟨tp, tt, hrw, hL⟩ := htag _ _ hr
    try k_fold
    cases r
    · k_steps
      refine ret _ _ _ (fun b o e => Fr.keep (h₀ := g) (by assumption) b o (k0 b o e)) ?_
      rw [Aut.fin_tag hr (by omega)]; rfl
    · k_steps
      refine ret _ _ _ (fun b o e => Fr.keep (h₀ := g) (by assumption) b o (k0 b o e)) ?_
      rw [Aut.fin_tag hr (by omega)]; rfl
end

local macro_rules | `(tactic| passes_own) => `(tactic| assumption)
section
set_option maxHeartbeats 8000000

local macro_rules | `(tactic| walk_at "call ref") => `(tactic| k_dflt (refine' final_ok (by assumption) (by assumption) (by assumption) (by assumption) rfl rfl (by first | omega | (dsimp only; omega)) (DfaAt.keeps (by assumption) (Fr.keep (by assumption))) (by assumption) (by first | assumption | exact Aut.Ok.zero (by assumption) | exact Aut.Ok.step_in (by assumption) _ _) ?_; k_whole; intro h' tk' r' k' e'; (have F' := Fr.keeps (by assumption) k'); (have N' := News.grown (by assumption) k'); subst e'))
local macro_rules | `(tactic| walk_at "call ref") => `(tactic| k_dflt (refine' step_ok (by assumption) (by assumption) (by assumption) (by assumption) rfl rfl (by first | omega | (dsimp only; omega)) (DfaAt.keeps (by assumption) (Fr.keep (by assumption))) (by assumption) (by first | assumption | exact Aut.Ok.zero (by assumption) | exact Aut.Ok.step_in (by assumption) _ _) (by assumption) ?_; k_whole; intro h' tk' r' t' k' e'; (have F' := Fr.keeps (by assumption) k'); (have N' := News.grown (by assumption) k'); subst e'))
local macro_rules | `(tactic| walk_at "pyIter ref") => `(tactic| (k_here; refine Paused.go ?_))

local macro_rules | `(tactic| walk_at "binaryOp Mult ref int") => `(tactic| (k_here; k_dflt (refine mul_false (by k_asm) (by k_asm) (News.isList (by k_asm) (by k_mem)) (by omega) (by omega) (Paused.go ?_))))
local macro_rules | `(tactic| walk_at "setItem ref int") => `(tactic| (k_here; (with_reducible show wpAny _ _ (setItem (Value.ref _) (Value.int _ _) (Value.bool _)) _ _ _); k_dflt (refine' kbo_set (by k_asm) (by k_asm) (by k_upd) (by with_reducible assumption) (by omega) (by omega) (by omega) ?_; k_whole); intro h' F' N' hb' hl'))
-- arithmetic ahead of the walk
theorem om_s0 {n : Nat} (h : n ≤ 6) : Builtin.Range.small ((n : Int) - 1) (-1) (-1) = true ∧ Builtin.Range.small 0 ((n : Int) + 1) 1 = true := ⟨small_down (by omega) (by omega) (by omega) (by omega), small_one (by omega) (by omega) (by omega) (by omega)⟩
theorem om_s1 {n i : Nat} (hi : i < n) : ((n : Int) - 1 + (i : Int) * -1) = ((n - 1 - i : Nat) : Int) := by omega
theorem om_s2 {n i k b : Nat} (hk : k = n - 1 - i) (hi : i < n) (h : n ≤ 6) (hb : b = n + 1) : k < n ∧ n - i = k + 1 ∧ n - (i + 1) = k ∧ (k : Int) < 2 ^ 63 ∧ (0 : Int) ≤ (k : Int) ∧ (k : Int) < (n : Int) ∧ (k : Int) < (b : Int) ∧ k < b := by omega
theorem om_s3 {n i k j : Nat} (hk : k = n - 1 - i) (hi : i < n) (h1 : n - (i + 1) ≤ j) (hj : ¬ j = k) : n - i ≤ j := by omega
theorem om_s4 {n i b : Nat} (hi : i < n + 1) (hb : b = n + 1) (h : n ≤ 6) : (i : Int) < 2 ^ 63 ∧ (0 : Int) ≤ (i : Int) ∧ (i : Int) < (b : Int) ∧ i ≤ n := by omega
theorem om_s5 (n : Nat) : ((n : Int) - 1 - -1).toNat = n := by omega
theorem om_s6 {n j : Nat} (h1 : n - 0 ≤ j) (h2 : j ≤ n) : j = n := by omega
theorem search_ok {w : World} {p : Program} {loose : List Str} {mean : ExcName → Option Value} {mg mb : Str → Option Value} {dp un : Nat} {gd : Option (List Code)} {env : Env} {outer : List Env}
    {A₀ : Around} {base h₀ : Heap} {L : Addr} {m : Str → Option Value} {s : Shared} {Q E : Value → Shared → Prop}
    (B : Below A₀ base outer h₀) (F : Fr h₀ L s.heap m) (X : (hd.heap_1 w.params).In h₀) (T : Top p loose mean mg mb h₀) (hf : env.frame = some L) (hke : env.scope.kind = .function) (hdp : dp < 800)
    {c f b l : Addr} {way : Str} {fa ba : Aut} {word : List Int} {len : Value} (C : CutAt s.heap c way len (.ref f) (.ref b)) (Df : DfaAt s.heap f fa) (Db : DfaAt s.heap b ba) (okf : fa.Ok) (okb : ba.Ok) (W : WordAt s.heap l word)
    (ret : ∀ h' tk' r t, s.heap.StaysIn h' → r = cutOf fa ba word (word.length + 1) → Q (.int r t) { s with heap := h', toks := tk' }) :
    wpAny (model Challenge.rw_ok0116_01.row.prog w) { handled := none, depth := dp, frames := some (env :: outer), guards := gd, units := un } (call (.ref 173) [.ref c, .ref l]) Q E s := by
  w_top off
  revert X; k_fill; intro X
  refine wpAny_call ?_
  refine' code_defG (news := []) B F X News.nil T rfl hf hke ?k6 ?k7 ?k8 ?k9 ?kB ?_ ?c2 ?c3 ?c4 ?c5
  (case k6 => k_is)
  (case k7 => k_is)
  (case k8 => (show dp < recursionLimit; unfold recursionLimit; omega))
  (case k9 => exact BindsTo.of_eq rfl)
  (case c5 => decide)
  (case kB => exact locs rfl)
  (case c2 => exact rfl)
  (case c3 => exact rfl)
  (case c4 => exact rfl)
  intro g L' h₁ FG F' N' B' X' T' GS
  have k0 : s.heap.StaysIn g := fun b o e => GS b o e (by simp)
  have C' := C.keeps k0
  obtain ⟨dx, nn, t0, t1, t2, t3, t4, e1, e2, e3, e4, I⟩ := C'.at_
  clear C'
  have Df' := Df.keeps k0
  have Db' := Db.keeps k0
  obtain ⟨dxf, nf, rlf, glf, tf1, tf2, hf1, hf2, rowsf, tagsf, If, _⟩ := Df'.at_
  obtain ⟨dxb, nb, rlb, glb, tb1, tb2, hb1, hb2, rowsb, tagsb, Ib, _⟩ := Db'.at_
  obtain ⟨⟨its, hl, hi⟩, hsm, hdig⟩ := W.keeps k0
  have hil := hi.length
  try k_fold
  refine' wp_gen2 ?hE9 ?_
  (case hE9 => passes_own)
  intro Q9 E9 hQ9 hE9 hP9
  k_steps
  refine Paused.mk ?_
  intro D9 h2 vs0 bs0 F2 N2 l2 hB0 hn0
  k_lt l2
  k_steps
  refine Paused.mk ?_
  rename IsRange _ _ _ _ _ _ _ _ => hR
  rename LSm.BoolsAre _ _ => hB
  rename (List.length _ = List.length _) => hBl
  rename Fr _ _ _ _ => F9
  rename News _ _ _ _ => N9
  have N8 := News.one N9
  refine for_range1 (n := word.length) (y := Str.ofString "state") (fun i st news => st = ba.run 0 (word.drop (word.length - i)).reverse ∧ ∃ vs bs, news = [(D9, listOf vs.toArray 0)] ∧ LSm.BoolsAre vs bs ∧ bs.length = word.length + 1 ∧ ∀ j, word.length - i ≤ j → j ≤ word.length → bs[j]? = some (ba.takes (word.drop j).reverse)) rfl hR (om_s0 hsm).1 ?_ F9 N8 rfl ?_ ?_ ?_
  · rw [rangeSize_downNat]; exact congrArg _ (om_s5 _)
  · refine ⟨by simp [Aut.run], _, _, rfl, hB, by omega, fun j h1 h2 => ?_⟩
    have hj : j = word.length := om_s6 h1 h2
    subst hj
    simp only [Aut.takes, Aut.run, List.drop_length, List.reverse_nil, List.foldl_nil, Int.toNat_natCast]
    rw [List.getElem?_set_self (by omega)]
  · rintro i t st ts I oI news₁ h tk hi ⟨hst, vs, bs, rfl, hB', hBl', hfit⟩ ne hI F₁ N₁
    rw [om_s1 hi] at F₁
    obtain ⟨k, hk⟩ : ∃ k, k = word.length - 1 - i := ⟨_, rfl⟩
    rw [← hk] at F₁
    obtain ⟨hkl, q1, q2, q3, q4, q5, q6, q7⟩ := om_s2 hk hi hsm hBl'
    have hdg := digit_at hdig (k : Int).toNat
    have hin : ba.In st := hst ▸ okb.run_in _ okb.zero
    have hne : @Ne Nat D9 I := ne _ (.head _)
    change Fr g L' _ _ at F₁
    change News g L' _ _ at N₁
    try k_fold
    k_steps
    have hv : ba.step st (word.getD (k : Int).toNat 0) = ba.run 0 (word.drop k).reverse := by
      rw [drop_rev hkl, Aut.run_snoc, hst, q1, Int.toNat_natCast]
    refine TurnNext.intro [(D9, listOf _ 0)] (by assumption) (by assumption) (fun p hp => hp) ?_ ⟨⟨_, _, rfl, ?_, _, _, rfl, by assumption, ?_, ?_⟩, ?_⟩
    · intro p hp
      rw [List.mem_singleton.mp hp]
      exact hne
    · rw [hv, q2]
    · rw [List.length_set]; exact hBl'
    · intro j h1 h2
      rw [hv, Int.toNat_natCast]
      by_cases hj : j = k
      · subst hj
        rw [List.getElem?_set_self q7]
        rfl
      · rw [List.getElem?_set_ne (fun e => hj e.symm)]
        exact hfit j (om_s3 hk hi h1 hj) h2
    · intro z h1 h2
      simp only [if_neg h1, if_neg h2]
  · rintro o st ts news₁ h tk ⟨hst, vs, bs, rfl, hB', hBl', hfit⟩ F₁ N₁
    clear F9 N9 N8 hR
    change Fr g L' _ _ at F₁
    change News g L' _ _ at N₁
    dsimp only
    k_steps
    refine Paused.mk ?_
    rename IsRange _ _ _ _ _ _ _ _ => hR
    rename Fr _ _ _ _ => F9
    rename News _ _ _ _ => N9
    rw [Nat.sub_self] at hfit
    refine for_range2 (n := word.length + 1) (y := Str.ofString "state") (y' := Str.ofString "best") (fun i st best news => st = fa.run 0 (word.take i) ∧ best = cutOf fa ba word i ∧ news = [(D9, listOf vs.toArray 0)]) rfl hR (om_s0 hsm).2 ?_ F9 N9 rfl rfl ⟨rfl, rfl, rfl⟩ ?_ ?_
    · rw [rangeSize_nat]; rfl
    · rintro i t st ts best bt I oI news₁ h tk hi ⟨hst2, hbest, rfl⟩ ne hI F₂ N₂
      rw [om_zi i] at F₂
      obtain ⟨u1, u2, u3, u4⟩ := om_s4 hi hBl' hsm
      have hin : fa.In st := hst2 ▸ okf.run_in _ okf.zero
      have hne : @Ne Nat D9 I := ne _ (.head _)
      have hfi : bs.getD (i : Int).toNat false = ba.takes (word.drop i).reverse := by
        rw [Int.toNat_natCast, List.getD_eq_getElem?_getD, hfit i (Nat.zero_le _) u4]; rfl
      have hfa : fa.fin st = fa.takes (word.take i) := by rw [hst2]; rfl
      have hcut : cutOf fa ba word (i + 1) = if fa.fin st && bs.getD (i : Int).toNat false then (i : Int) else best := by
        rw [hfi, hfa, hbest]; rfl
      have hdg := digit_at hdig (i : Int).toNat
      change Fr g L' _ _ at F₂
      change News g L' _ _ at N₂
      by_cases hlt : i < word.length
      · have hnx : fa.step st (word.getD (i : Int).toNat 0) = fa.run 0 (word.take (i + 1)) := by
          rw [take_snoc hlt, Aut.run_snoc, hst2, Int.toNat_natCast]
        k_steps
        all_goals (
          rename (Mine.Aut.fin _ _ = _) => q1
          refine TurnNext.intro [(D9, listOf _ 0)] (by assumption) (by assumption) (fun p hp => hp) ?_ ⟨⟨_, _, _, _, rfl, rfl, ?_, ?_, rfl⟩, ?_⟩
          · intro p hp
            rw [List.mem_singleton.mp hp]
            exact hne
          · exact hnx
          · rw [hcut]
            first | (rw [q1]; rfl) | ((rename (List.getD _ _ _ = _) => q2); rw [q1, q2]; rfl)
          · intro z h1 h2 h3
            simp only [if_neg h1, if_neg h2, if_neg h3])
      · have hnx : st = fa.run 0 (word.take (i + 1)) := by
          rw [hst2, List.take_of_length_le (by omega), List.take_of_length_le (by omega)]
        k_steps
        all_goals (
          rename (Mine.Aut.fin _ _ = _) => q1
          refine TurnNext.intro [(D9, listOf _ 0)] (by assumption) (by assumption) (fun p hp => hp) ?_ ⟨⟨_, _, _, _, rfl, rfl, ?_, ?_, rfl⟩, ?_⟩
          · intro p hp
            rw [List.mem_singleton.mp hp]
            exact hne
          · exact hnx
          · rw [hcut]
            first | (rw [q1]; rfl) | ((rename (List.getD _ _ _ = _) => q2); rw [q1, q2]; rfl)
          · intro z h1 h2 h3
            simp only [if_neg h1, if_neg h2, if_neg h3])
    · rintro o st ts best bt news₁ h tk ⟨hst2, hbest, rfl⟩ F₂ N₂
      change Fr g L' _ _ at F₂
      change News g L' _ _ at N₂
      dsimp only
      k_steps
      subst hQ9
      (try dsimp only)
      k_steps
      refine ret _ _ _ _ (fun b o e => Fr.keep (h₀ := g) (by assumption) b o (k0 b o e)) hbest
end

section
set_option maxHeartbeats 8000000

local macro_rules | `(tactic| walk_at "pyIter ref") => `(tactic| (k_here; refine Paused.go ?_))
local macro_rules | `(tactic| walk_at "subscriptTail Subscript") => `(tactic| (k_here; (with_reducible show wpAny _ _ (subscriptTail _ _ (Value.ref _) (Value.int _ _)) _ _ _); k_dflt (refine' item_any ?k1 ?k2 ?k3 ?k4 ?_ ?k6; (case k1 => exact stays_list (Fr.keep (by assumption)) (by assumption)); (case k4 => assumption); (case k2 => first | with_reducible assumption | omega); (case k3 => first | with_reducible assumption | omega); (case k6 => with_unfolding_all rfl); k_whole)))

local macro_rules | `(tactic| walk_at "exec For Name Name cons nil") => `(tactic| (k_here; refine Paused.go ?_))
theorem takes_ok {w : World} {p : Program} {loose : List Str} {mean : ExcName → Option Value} {mg mb : Str → Option Value} {dp un : Nat} {gd : Option (List Code)} {env : Env} {outer : List Env}
    {A₀ : Around} {base h₀ : Heap} {L : Addr} {m : Str → Option Value} {s : Shared} {Q E : Value → Shared → Prop}
    (B : Below A₀ base outer h₀) (F : Fr h₀ L s.heap m) (X : (hd.heap_1 w.params).In h₀) (T : Top p loose mean mg mb h₀) (hf : env.frame = some L) (hke : env.scope.kind = .function) (hdp : dp < 900)
    {t l : Addr} {a : Aut} {word : List Int} (D : AutAt s.heap t a) (ok : a.Ok) (W : WordAt s.heap l word)
    (ret : ∀ h' tk' r, s.heap.StaysIn h' → r = a.takes word → Q (.bool r) { s with heap := h', toks := tk' }) :
    wpAny (model Challenge.rw_ok0116_01.row.prog w) { handled := none, depth := dp, frames := some (env :: outer), guards := gd, units := un } (call (.ref 443) [.ref t, .ref l]) Q E s := by
  w_top off
  revert X; k_fill; intro X
  refine wpAny_call ?_
  refine' code_defG (news := []) B F X News.nil T rfl hf hke ?k6 ?k7 ?k8 ?k9 ?kB ?_ ?c2 ?c3 ?c4 ?c5
  (case k6 => k_is)
  (case k7 => k_is)
  (case k8 => (show dp < recursionLimit; unfold recursionLimit; omega))
  (case k9 => exact BindsTo.of_eq rfl)
  (case c5 => decide)
  (case kB => exact locs rfl)
  (case c2 => exact rfl)
  (case c3 => exact rfl)
  (case c4 => exact rfl)
  intro g L' h₁ FG F' N' B' X' T' GS
  have k0 : s.heap.StaysIn g := fun b o e => GS b o e (by simp)
  obtain ⟨rl, gl, rows, gv, hT, hrl, hgl, hR, hB⟩ := (D.keeps k0).at_
  obtain ⟨hlen, hrow⟩ := hR
  obtain ⟨⟨its, hl, hi⟩, hsm, hdig⟩ := W.keeps k0
  have hil := hi.length
  have h3 := ok.three
  have h4 := ok.same
  try k_fold
  k_steps
  refine Paused.mk ?_
  refine For_invV g (by rfl) (by rfl) ?_
  k_steps
  refine Paused.mk ?_
  rename Fr _ _ _ _ => F9
  rename News _ _ _ _ => N9
  refine for_list1 (y := Str.ofString "state") (fun i st news => st = a.run 0 (word.take i) ∧ news = []) rfl hl F9 N9 rfl ⟨rfl, rfl⟩ ?_ ?_
  · rintro i v st ts I oI news₁ h tk hv ⟨hst, rfl⟩ ne hI F₁ N₁
    change Fr g L' _ _ at F₁
    change News g L' _ _ at N₁
    obtain ⟨n, tn, rfl, hn⟩ := hi.at i v (by simpa using hv)
    have hdg := hdig n (List.mem_of_getElem? hn)
    have hlt : i < word.length := (List.getElem?_eq_some_iff.mp hn).1
    have hnx : a.step st n = a.run 0 (word.take (i + 1)) := by
      rw [take_snoc hlt, Aut.run_snoc, hst, List.getD_eq_getElem?_getD, hn]; rfl
    obtain ⟨i1, i2⟩ : a.In st := hst ▸ ok.run_in _ ok.zero
    by_cases hs : st = -1
    · k_steps
      refine TurnNext.intro [] (by assumption) (by assumption) (fun p hp => hp) (fun p hp => nomatch hp) ⟨⟨_, _, rfl, ?_, rfl⟩, ?_⟩
      · rw [← hnx, hs]; rfl
      · intro z h1 h2
        simp only [if_neg h1, if_neg h2]
    · obtain ⟨r, hr⟩ : ∃ r, a.rows[st.toNat]? = some r := ⟨_, List.getElem?_eq_getElem (by omega)⟩
      obtain ⟨row, its', hrw, hL, hI'⟩ := hrow _ _ hr
      have hr3 := ok.cols _ _ hr
      have hil' := hI'.length
      k_steps
      refine TurnNext.intro [] (by assumption) (by assumption) (fun p hp => hp) (fun p hp => nomatch hp) ⟨⟨_, _, rfl, ?_, rfl⟩, ?_⟩
      · rw [← hnx]; exact Aut.step_row hr (by omega) (by omega)
      · intro z h1 h2
        simp only [if_neg h1, if_neg h2]
  · rintro o st ts news₁ h tk ⟨hst, rfl⟩ F₁ N₁
    change Fr g L' _ _ at F₁
    change News g L' _ _ at N₁
    dsimp only
    have hfin : a.fin st = a.takes word := by
      rw [hst, List.size_toArray, hil, List.take_length]; rfl
    obtain ⟨i1, i2⟩ : a.In st := hst ▸ ok.run_in _ ok.zero
    by_cases hs : st = -1
    · k_steps
      refine ret _ _ _ (fun b o e => Fr.keep (h₀ := g) (by assumption) b o (k0 b o e)) ?_
      rw [← hfin, hs]; rfl
    · obtain ⟨r, hr⟩ : ∃ r, a.tags[st.toNat]? = some r := ⟨_, List.getElem?_eq_getElem (by omega)⟩
      have hg := kbo_at hB st.toNat (by omega)
      k_steps
      refine ret _ _ _ (fun b o e => Fr.keep (h₀ := g) (by assumption) b o (k0 b o e)) ?_
      rw [← hfin, Aut.fin, if_neg (by omega)]
end

section
set_option maxHeartbeats 8000000

local macro_rules | `(tactic| walk_at "exec Assign cons ListComp") => `(tactic| (k_here; refine Paused.go ?_))

local macro_rules | `(tactic| walk_at "CompSrcT") => `(tactic| (k_here; refine Paused.go ?_))
local macro_rules | `(tactic| walk_at "call ref") => `(tactic| k_dflt (refine' takes_ok (by assumption) (by assumption) (by assumption) (by assumption) rfl rfl (by first | omega | (dsimp only; omega)) (AutAt.keeps (by assumption) (Fr.keep (by assumption))) (by assumption) (by exact WordAt.mk ⟨_, News.isList (by k_asm) (by k_mem), by assumption⟩ (by (try simp only [List.length_reverse, List.length_take, List.length_drop]); omega) (by first | exact dig_take (by assumption) | exact dig_rev (dig_drop (by assumption)) | exact dig_drop (by assumption))) ?_; k_whole; intro h' tk' r' k' e'; (have F' := Fr.keeps (by assumption) k'); (have N' := News.grown (by assumption) k'); subst e'))
local macro_rules | `(tactic| walk_at "subscriptTail Name Slice ref ref") => `(tactic| (k_here; (with_reducible show wpAny _ _ (subscriptTail _ (PySem.Expr.Slice _ _ none _) (Value.ref _) (Value.ref _)) _ _ _); k_dflt (refine' kmk_slice_ints ?F ?N ?l ?p ?q ?i ?m ?c ?_ ?s ?t ?z; (case F => k_asm); (case N => k_asm); (case l => exact stays_list (Fr.keep (by assumption)) (by assumption)); (case p => kmk_part); (case q => kmk_part); (case i => assumption); (case m => first | with_reducible exact kmk_from (by assumption) (Int.natCast_nonneg _) | with_reducible exact kmk_upto (by assumption) (Int.natCast_nonneg _)); (case c => kmk_len); (case s => with_unfolding_all rfl); (case t => kmk_pure); (case z => rw [PySem.sizeLine_eq, List.size_toArray]; omega)); intro D' ws' h' F' N' l1 hI' hC' hL'; (try k_lt l1)))
local macro_rules | `(tactic| walk_at "binaryOp Add ref ref") => `(tactic| (k_here; (with_reducible show wpAny _ _ (binaryOp _ (Value.ref _) (Value.ref _)) _ _ _); k_dflt (refine' kmk_add_ints ?F ?N ?a ?b ?i ?j ?_ ?z; (case F => k_asm); (case N => k_asm); (case a => exact News.isList (by k_asm) (by k_mem)); (case b => exact News.isList (by k_asm) (by k_mem)); (case i => exact .cons _ _ .nil); (case j => assumption); (case z => (simp only [List.length_cons, List.length_nil]; rw [PySem.sizeLine_eq]; omega))); intro D' ws' h' F' N' l1 hI'; (try k_lt l1)))
theorem due_search {w : World} {p : Program} {loose : List Str} {mean : ExcName → Option Value} {mg mb : Str → Option Value} {dp un : Nat} {gd : Option (List Code)} {env : Env} {outer : List Env}
    {A₀ : Around} {base h₀ : Heap} {L : Addr} {m : Str → Option Value} {s : Shared} {Q E : Value → Shared → Prop}
    (B : Below A₀ base outer h₀) (F : Fr h₀ L s.heap m) (X : (hd.heap_1 w.params).In h₀) (T : Top p loose mean mg mb h₀) (hf : env.frame = some L) (hke : env.scope.kind = .function) (hdp : dp < 800)
    {t l ta tb : Addr} {tk0 : Tok} {a b : Aut} {word : List Int} (D : IsTup s.heap t #[.str (Str.ofString "search") tk0, .ref ta, .ref tb]) (Da : AutAt s.heap ta a) (Db : AutAt s.heap tb b) (oka : a.Ok) (okb : b.Ok) (W : WordAt s.heap l word)
    (ret : ∀ h' tk' r t, s.heap.StaysIn h' → r = cutOf a b word (word.length + 1) → Q (.int r t) { s with heap := h', toks := tk' }) :
    wpAny (model Challenge.rw_ok0116_01.row.prog w) { handled := none, depth := dp, frames := some (env :: outer), guards := gd, units := un } (call (.ref 448) [.ref t, .ref l]) Q E s := by
  w_top off
  revert X; k_fill; intro X
  refine wpAny_call ?_
  refine' enterC B F X T rfl hf hke ?k6 ?k7 ?k8 ?k9 ?kB ?kD ?_ ?c2 ?c3 ?c4
  (case k6 => k_is)
  (case k7 => k_is)
  (case k8 => (show dp < recursionLimit; unfold recursionLimit; omega))
  (case k9 => exact BindsTo.of_eq rfl)
  (case kB => exact rfl)
  (case kD => decide +kernel)
  (case c2 => exact rfl)
  (case c3 => exact rfl)
  (case c4 => exact rfl)
  intro g L' h₁ tk cells hg hL' F' N' Y' B' X' T'
  k_cells Y'
  try simp only [List.cons_append, List.nil_append] at N'
  try dsimp only
  have k0 : s.heap.StaysIn g := fun b o e => hg ▸ e
  have Dt := stays_tup k0 D
  have Da' := Da.keeps k0
  have Db' := Db.keeps k0
  obtain ⟨⟨its, hl, hi⟩, hsm, hdig⟩ := W.keeps k0
  have hil := hi.length
  try k_fold
  refine' wp_gen2 ?hE9 ?_
  (case hE9 => passes_own)
  intro Q9 E9 hQ9 hE9 hP9
  k_steps
  refine Paused.mk ?_
  refine LCt.Assign_ListComp_T (F₀ := by k_asm) (by rfl) (by with_unfolding_all rfl) (by with_unfolding_all rfl) (by decide) (by rfl) (by decide) (by rfl) (by rfl) (by rfl) ?_
  k_steps
  refine Paused.mk ?_
  rename IsRange _ _ _ _ _ _ _ _ => hR
  rename Fr _ _ _ _ => F9
  rename News _ _ _ _ => N9
  refine LCt.CompSrcT.range rfl F9 N9 hR (small_one (by omega) (by omega) (by omega) (by omega)) (rangeSize_nat _ _) (by rw [PySem.sizeLine_eq]; omega) ?_
  intro g9
  refine comp_restT (fun i ys news => IntsAre ys (spotsTo a b word i) ∧ news = _) ⟨.nil, rfl⟩ ?_ ?_
  · rintro i v I oI C oC D m₂ ys news h tk E' hi' ⟨tv, rfl⟩ ⟨hys, rfl⟩ hC hx F₁ N₁ off ne
    rw [show ((0 : Int) + (i : Int)) = (i : Int) by omega] at hx
    k_steps
    · rename (Mine.Aut.takes a _ = _) => q1
      rename (Mine.Aut.takes b _ = _) => q2
      simp only [Int.toNat_natCast] at q1 q2
      refine LCg.CompEnd.intro (by assumption) (by assumption) _ (by kcf_all) off trivial ⟨?_, rfl⟩
      rw [spotsTo, q1, q2]
      exact IntsAre.append hys (.cons _ _ .nil)
    · rename (Mine.Aut.takes a _ = _) => q1
      rename (Mine.Aut.takes b _ = _) => q2
      simp only [Int.toNat_natCast] at q1 q2
      refine LCg.CompEnd.intro (by assumption) (by assumption) _ (by kcf_all) off trivial ⟨?_, rfl⟩
      rw [spotsTo, q1, q2]
      simpa using hys
    · rename (Mine.Aut.takes a _ = _) => q1
      simp only [Int.toNat_natCast] at q1
      refine LCg.CompEnd.intro (by assumption) (by assumption) _ (by kcf_all) off trivial ⟨?_, rfl⟩
      rw [spotsTo, q1]
      simpa using hys
  · rintro ys news ⟨hys, rfl⟩
    intro D h tk F₁ N₁ off
    rw [show ((word.length : Int) + 1 - 0).toNat = word.length + 1 by omega] at hys
    have hsl := spotsTo_length a b word (word.length + 1)
    dsimp only
    k_steps
    subst hQ9
    (try dsimp only)
    k_steps
    rename (_ ∈ [-1] ++ _) => qa
    rename (∀ x, x ∈ [-1] ++ _ → _) => qb
    exact ret _ _ _ _ (fun b o e => Fr.keep (h₀ := g) (by assumption) b o (k0 b o e)) (Int.le_antisymm (cutOf_le _ _ _ _ _ qa) (qb _ (cutOf_mem _ _ _ _)))
end

section
set_option maxHeartbeats 8000000


theorem due_none {w : World} {p : Program} {loose : List Str} {mean : ExcName → Option Value} {mg mb : Str → Option Value} {dp un : Nat} {gd : Option (List Code)} {env : Env} {outer : List Env}
    {A₀ : Around} {base h₀ : Heap} {L : Addr} {m : Str → Option Value} {s : Shared} {Q E : Value → Shared → Prop}
    (B : Below A₀ base outer h₀) (F : Fr h₀ L s.heap m) (X : (hd.heap_1 w.params).In h₀) (T : Top p loose mean mg mb h₀) (hf : env.frame = some L) (hke : env.scope.kind = .function) (hdp : dp < 800)
     {l : Addr} {word : List Int} (W : WordAt s.heap l word)
    (ret : ∀ h' tk' r t, s.heap.StaysIn h' → r = (word.length : Int) → Q (.int r t) { s with heap := h', toks := tk' }) :
    wpAny (model Challenge.rw_ok0116_01.row.prog w) { handled := none, depth := dp, frames := some (env :: outer), guards := gd, units := un } (call (.ref 448) [.none, .ref l]) Q E s := by
  w_top off
  revert X; k_fill; intro X
  refine wpAny_call ?_
  refine' enterC B F X T rfl hf hke ?k6 ?k7 ?k8 ?k9 ?kB ?kD ?_ ?c2 ?c3 ?c4
  (case k6 => k_is)
  (case k7 => k_is)
  (case k8 => (show dp < recursionLimit; unfold recursionLimit; omega))
  (case k9 => exact BindsTo.of_eq rfl)
  (case kB => exact rfl)
  (case kD => decide +kernel)
  (case c2 => exact rfl)
  (case c3 => exact rfl)
  (case c4 => exact rfl)
  intro g L' h₁ tk cells hg hL' F' N' Y' B' X' T'
  k_cells Y'
  try simp only [List.cons_append, List.nil_append] at N'
  try dsimp only
  have k0 : s.heap.StaysIn g := fun b o e => hg ▸ e
  obtain ⟨⟨its, hl, hi⟩, hsm, hdig⟩ := W.keeps k0
  have hil := hi.length
  try k_fold
  k_steps
  exact ret _ _ _ _ (fun b o e => Fr.keep (h₀ := g) (by assumption) b o (k0 b o e)) rfl

theorem due_behind {w : World} {p : Program} {loose : List Str} {mean : ExcName → Option Value} {mg mb : Str → Option Value} {dp un : Nat} {gd : Option (List Code)} {env : Env} {outer : List Env}
    {A₀ : Around} {base h₀ : Heap} {L : Addr} {m : Str → Option Value} {s : Shared} {Q E : Value → Shared → Prop}
    (B : Below A₀ base outer h₀) (F : Fr h₀ L s.heap m) (X : (hd.heap_1 w.params).In h₀) (T : Top p loose mean mg mb h₀) (hf : env.frame = some L) (hke : env.scope.kind = .function) (hdp : dp < 800)
    {t : Addr} {k1 k2 : Tok} {n : Int} (D : IsTup s.heap t #[.str (Str.ofString "behind") k1, .int n k2]) {l : Addr} {word : List Int} (W : WordAt s.heap l word)
    (ret : ∀ h' tk' r t, s.heap.StaysIn h' → r = (word.length : Int) - n → Q (.int r t) { s with heap := h', toks := tk' }) :
    wpAny (model Challenge.rw_ok0116_01.row.prog w) { handled := none, depth := dp, frames := some (env :: outer), guards := gd, units := un } (call (.ref 448) [.ref t, .ref l]) Q E s := by
  w_top off
  revert X; k_fill; intro X
  refine wpAny_call ?_
  refine' enterC B F X T rfl hf hke ?k6 ?k7 ?k8 ?k9 ?kB ?kD ?_ ?c2 ?c3 ?c4
  (case k6 => k_is)
  (case k7 => k_is)
  (case k8 => (show dp < recursionLimit; unfold recursionLimit; omega))
  (case k9 => exact BindsTo.of_eq rfl)
  (case kB => exact rfl)
  (case kD => decide +kernel)
  (case c2 => exact rfl)
  (case c3 => exact rfl)
  (case c4 => exact rfl)
  intro g L' h₁ tk cells hg hL' F' N' Y' B' X' T'
  k_cells Y'
  try simp only [List.cons_append, List.nil_append] at N'
  try dsimp only
  have k0 : s.heap.StaysIn g := fun b o e => hg ▸ e
  have Dt := stays_tup k0 D
  obtain ⟨⟨its, hl, hi⟩, hsm, hdig⟩ := W.keeps k0
  have hil := hi.length
  try k_fold
  k_steps
  exact ret _ _ _ _ (fun b o e => Fr.keep (h₀ := g) (by assumption) b o (k0 b o e)) rfl

theorem due_ahead {w : World} {p : Program} {loose : List Str} {mean : ExcName → Option Value} {mg mb : Str → Option Value} {dp un : Nat} {gd : Option (List Code)} {env : Env} {outer : List Env}
    {A₀ : Around} {base h₀ : Heap} {L : Addr} {m : Str → Option Value} {s : Shared} {Q E : Value → Shared → Prop}
    (B : Below A₀ base outer h₀) (F : Fr h₀ L s.heap m) (X : (hd.heap_1 w.params).In h₀) (T : Top p loose mean mg mb h₀) (hf : env.frame = some L) (hke : env.scope.kind = .function) (hdp : dp < 800)
    {t : Addr} {k1 k2 : Tok} {n : Int} (D : IsTup s.heap t #[.str (Str.ofString "ahead") k1, .int n k2]) {l : Addr} {word : List Int} (W : WordAt s.heap l word)
    (ret : ∀ h' tk' r t, s.heap.StaysIn h' → r = n → Q (.int r t) { s with heap := h', toks := tk' }) :
    wpAny (model Challenge.rw_ok0116_01.row.prog w) { handled := none, depth := dp, frames := some (env :: outer), guards := gd, units := un } (call (.ref 448) [.ref t, .ref l]) Q E s := by
  w_top off
  revert X; k_fill; intro X
  refine wpAny_call ?_
  refine' enterC B F X T rfl hf hke ?k6 ?k7 ?k8 ?k9 ?kB ?kD ?_ ?c2 ?c3 ?c4
  (case k6 => k_is)
  (case k7 => k_is)
  (case k8 => (show dp < recursionLimit; unfold recursionLimit; omega))
  (case k9 => exact BindsTo.of_eq rfl)
  (case kB => exact rfl)
  (case kD => decide +kernel)
  (case c2 => exact rfl)
  (case c3 => exact rfl)
  (case c4 => exact rfl)
  intro g L' h₁ tk cells hg hL' F' N' Y' B' X' T'
  k_cells Y'
  try simp only [List.cons_append, List.nil_append] at N'
  try dsimp only
  have k0 : s.heap.StaysIn g := fun b o e => hg ▸ e
  have Dt := stays_tup k0 D
  obtain ⟨⟨its, hl, hi⟩, hsm, hdig⟩ := W.keeps k0
  have hil := hi.length
  try k_fold
  k_steps
  exact ret _ _ _ _ (fun b o e => Fr.keep (h₀ := g) (by assumption) b o (k0 b o e)) rfl

theorem due_ok {w : World} {p : Program} {loose : List Str} {mean : ExcName → Option Value} {mg mb : Str → Option Value} {dp un : Nat} {gd : Option (List Code)} {env : Env} {outer : List Env}
    {A₀ : Around} {base h₀ : Heap} {L : Addr} {m : Str → Option Value} {s : Shared} {Q E : Value → Shared → Prop}
    (B : Below A₀ base outer h₀) (F : Fr h₀ L s.heap m) (X : (hd.heap_1 w.params).In h₀) (T : Top p loose mean mg mb h₀) (hf : env.frame = some L) (hke : env.scope.kind = .function) (hdp : dp < 800)
    {v : Value} {l : Addr} {pl : Plan} {word : List Int} (D : PlanAt s.heap v pl) (ok : pl.Ok) (W : WordAt s.heap l word)
    (ret : ∀ h' tk' r t, s.heap.StaysIn h' → r = pl.due word → Q (.int r t) { s with heap := h', toks := tk' }) :
    wpAny (model Challenge.rw_ok0116_01.row.prog w) { handled := none, depth := dp, frames := some (env :: outer), guards := gd, units := un } (call (.ref 448) [v, .ref l]) Q E s := by
  cases pl with
  | none => cases D; exact due_none B F X T hf hke hdp W ret
  | behind n => obtain ⟨t, k1, k2, rfl, D⟩ := D; exact due_behind B F X T hf hke hdp D W ret
  | ahead n => obtain ⟨t, k1, k2, rfl, D⟩ := D; exact due_ahead B F X T hf hke hdp D W ret
  | search a b => obtain ⟨t, k1, ta, tb, rfl, D, Da, Db⟩ := D; exact due_search B F X T hf hke hdp D Da Db ok.1 ok.2 W ret
end

section
set_option maxHeartbeats 8000000

local macro_rules | `(tactic| walk_at "call ref") => `(tactic| k_dflt (refine' search_ok (by assumption) (by assumption) (by assumption) (by assumption) rfl rfl (by first | omega | (dsimp only; omega)) (CutAt.keeps (by assumption) (Fr.keep (by assumption))) (DfaAt.keeps (by assumption) (Fr.keep (by assumption))) (DfaAt.keeps (by assumption) (Fr.keep (by assumption))) (by assumption) (by assumption) (WordAt.keeps (by assumption) (Fr.keep (by assumption))) ?_; k_whole; intro h' tk' r' t' k' e'; (have F' := Fr.keeps (by assumption) k'); (have N' := News.grown (by assumption) k'); subst e'))
local macro_rules | `(tactic| walk_at "compareOp NotIn int ref") => `(tactic| (k_here; k_dflt (refine notin_dict (dictOf_keeps (Fr.keep (by assumption)) (by assumption)) (by assumption) _ (by assumption) ?_)))
local macro_rules | `(tactic| walk_at "subscriptTail Attribute Name Name ref int") => `(tactic| (k_here; (with_reducible show wpAny _ _ (subscriptTail _ _ (Value.ref _) (Value.int _ _)) _ _ _); k_dflt (refine' item_dict (dictOf_keeps (Fr.keep (by assumption)) (by assumption)) (by assumption) ?_ (by with_unfolding_all rfl); k_whole)))

theorem cutlen_ok {w : World} {p : Program} {loose : List Str} {mean : ExcName → Option Value} {mg mb : Str → Option Value} {dp un : Nat} {gd : Option (List Code)} {env : Env} {outer : List Env}
    {A₀ : Around} {base h₀ : Heap} {L : Addr} {m : Str → Option Value} {s : Shared} {Q E : Value → Shared → Prop}
    (B : Below A₀ base outer h₀) (F : Fr h₀ L s.heap m) (X : (hd.heap_1 w.params).In h₀) (T : Top p loose mean mg mb h₀) (hf : env.frame = some L) (hke : env.scope.kind = .function) (hdp : dp < 700)
    {tb cd l : Addr} {kvs : List (Int × Value)} {i : Int} {ti : Tok} {pl : Plan} {word : List Int} (D : LexAt Challenge.rw_ok0116_01.row.prog w s.heap tb cd kvs) (C : CutOk s.heap (valueAt kvs i) pl) (ok : pl.Ok) (W : WordAt s.heap l word)
    (ret : ∀ h' tk' r t, s.heap.StaysIn h' → r = pl.due word → Q (.int r t) { s with heap := h', toks := tk' }) :
    wpAny (model Challenge.rw_ok0116_01.row.prog w) { handled := none, depth := dp, frames := some (env :: outer), guards := gd, units := un } (call (.ref 166) [.ref tb, .int i ti, .ref l]) Q E s := by
  w_top off
  revert X; k_fill; intro X
  refine wpAny_call ?_
  refine' code_defG (news := []) B F X News.nil T rfl hf hke ?k6 ?k7 ?k8 ?k9 ?kB ?_ ?c2 ?c3 ?c4 ?c5
  (case k6 => k_is)
  (case k7 => k_is)
  (case k8 => (show dp < recursionLimit; unfold recursionLimit; omega))
  (case k9 => exact BindsTo.of_eq rfl)
  (case c5 => decide)
  (case kB => exact locs rfl)
  (case c2 => exact rfl)
  (case c3 => exact rfl)
  (case c4 => exact rfl)
  intro g L' h₁ FG F' N' B' X' T' GS
  have k0 : s.heap.StaysIn g := fun b o e => GS b o e (by simp)
  have D' := D.keeps k0
  have C' := C.keeps k0
  have W' := W.keeps k0
  obtain ⟨dx, od9, v8, v9, I, hx9⟩ := D'.at_
  cases hx9
  have hdict := D'.dict
  have hlo := D'.lo
  obtain ⟨⟨its, hl, hi⟩, hsm, hdig⟩ := id W'
  have hil := hi.length
  cases pl with
  | none =>
    have hv : valueAt kvs i = none := C'
    have hv' : (valueAt kvs i).isSome = false := by rw [hv]; rfl
    try k_fold
    k_steps
    exact ret _ _ _ _ (fun b o e => Fr.keep (h₀ := g) (by assumption) b o (k0 b o e)) rfl
  | behind k =>
    obtain ⟨x, tx, hv, Cx⟩ := C'
    have hv' : (valueAt kvs i).isSome = true := by rw [hv]; rfl
    obtain ⟨dy, ny, u0, u1, u2, u3, u4, y1, y2, y3, y4, Ix⟩ := Cx.at_
    try k_fold
    k_steps
    exact ret _ _ _ _ (fun b o e => Fr.keep (h₀ := g) (by assumption) b o (k0 b o e)) rfl
  | ahead k =>
    obtain ⟨x, tx, hv, Cx⟩ := C'
    have hv' : (valueAt kvs i).isSome = true := by rw [hv]; rfl
    obtain ⟨dy, ny, u0, u1, u2, u3, u4, y1, y2, y3, y4, Ix⟩ := Cx.at_
    try k_fold
    k_steps
    exact ret _ _ _ _ (fun b o e => Fr.keep (h₀ := g) (by assumption) b o (k0 b o e)) rfl
  | search a b =>
    obtain ⟨x, f, q, hv, Cx, Df, Db⟩ := C'
    have hv' : (valueAt kvs i).isSome = true := by rw [hv]; rfl
    obtain ⟨dy, ny, u0, u1, u2, u3, u4, y1, y2, y3, y4, Ix⟩ := Cx.at_
    obtain ⟨oka, okb⟩ := ok
    try k_fold
    k_steps
    exact ret _ _ _ _ (fun b o e => Fr.keep (h₀ := g) (by assumption) b o (k0 b o e)) rfl
end

section
set_option maxHeartbeats 8000000
local macro_rules | `(tactic| walk_at "no such step") => `(tactic| fail "no such step")

local macro_rules | `(tactic| walk_at "eval ListComp Call cons") => `(tactic| (k_here; refine Paused.go ?_))
local macro_rules | `(tactic| walk_at "CompSrc") => `(tactic| (k_here; refine Paused.go ?_))
local macro_rules | `(tactic| walk_at "call type:tuple") => `(tactic| (k_here; (with_reducible show wpAny _ _ (call (Value.type _) [Value.ref _]) _ _ _); k_dflt (refine' kde_tupleOf (by k_asm) (by k_asm) (by first | exact stays_list (Fr.keep (by assumption)) (by assumption) | exact News.isList (by k_asm) (by k_mem)) (by (simp only [List.size_toArray]; omega)) rfl ?_; k_whole); intro D' h' F' N' l1; (try k_lt l1)))

theorem told_ok {w : World} {p : Program} {loose : List Str} {mean : ExcName → Option Value} {mg mb : Str → Option Value} {dp un : Nat} {gd : Option (List Code)} {env : Env} {outer : List Env}
    {A₀ : Around} {base h₀ : Heap} {L : Addr} {m : Str → Option Value} {s : Shared} {Q E : Value → Shared → Prop}
    (B : Below A₀ base outer h₀) (F : Fr h₀ L s.heap m) (X : (hd.heap_1 w.params).In h₀) (T : Top p loose mean mg mb h₀) (hf : env.frame = some L) (hke : env.scope.kind = .function) (hdp : dp < 900)
    {x : Addr} {a : Aut} (D : DfaAt s.heap x a) (ok : a.Ok)
    (ret : ∀ h' tk' r as, s.heap.StaysIn h' → Reads h' r (toldD a) as → (∃ t, r = .ref t) → Q r { s with heap := h', toks := tk' }) :
    wpAny (model Challenge.rw_ok0116_01.row.prog w) { handled := none, depth := dp, frames := some (env :: outer), guards := gd, units := un } (call (.ref 68) [.ref x]) Q E s := by
  w_top off
  revert X; k_fill; intro X
  refine wpAny_call ?_
  refine' code_defG (news := []) B F X News.nil T rfl hf hke ?k6 ?k7 ?k8 ?k9 ?kB ?_ ?c2 ?c3 ?c4 ?c5
  (case k6 => k_is)
  (case k7 => k_is)
  (case k8 => (show dp < recursionLimit; unfold recursionLimit; omega))
  (case k9 => exact BindsTo.of_eq rfl)
  (case c5 => decide)
  (case kB => exact locs rfl)
  (case c2 => exact rfl)
  (case c3 => exact rfl)
  (case c4 => exact rfl)
  intro g L' h₁ FG F' N' B' X' T' GS
  have k0 : s.heap.StaysIn g := fun b o e => GS b o e (by simp)
  obtain ⟨dx, nn, rl, gl, u1, u2, e1, e2, rows, tags, I, hrl, hgl, hR, hT⟩ := (D.keeps k0).at_
  have h3 := ok.three
  obtain ⟨hlen, hrow⟩ := hR
  obtain ⟨tlen, htag⟩ := hT
  have h4 := ok.same
  try k_fold
  refine' wp_gen2 ?hE9 ?_
  (case hE9 => passes_own)
  intro Q9 E9 hQ9 hE9 hP9
  k_steps
  refine Paused.mk ?_
  refine LCg.ListComp_U (F₀ := by k_asm) (by with_unfolding_all rfl) (by decide) (by rfl) (by decide) (by rfl) ?_
  k_steps
  refine Paused.mk ?_
  rename Fr _ _ _ _ => F9
  rename News _ _ _ _ => N9
  refine LCg.CompSrc.base rfl F9 N9 hrl (by rw [List.size_toArray, PySem.sizeLine_eq]; omega) ?_
  intro g9
  refine comp_rest (fun i ys news => ys.length = i ∧ ∀ (j : Nat) (r : List Int), j < i → a.rows[j]? = some r → ∃ (tp : Addr) (its : List Value), ys[j]? = some (.ref tp) ∧ (tp, ({ cls := .type "tuple", data := .seq its.toArray } : Obj)) ∈ news ∧ IntsAre its r) ⟨rfl, fun j r h => absurd h (Nat.not_lt_zero _)⟩ ?_ ?_
  · rintro i v I oI C oC D m₂ ys news h tk E' hi hv ⟨hys, hall⟩ hC hx F₁ N₁ off ne
    have hil : i < a.rows.length := by rw [← hlen]; simpa using hi
    have hr : a.rows[i]? = some a.rows[i] := List.getElem?_eq_getElem hil
    obtain ⟨row, its, hrw, hL, hI⟩ := hrow i _ hr
    have hv2 : v = .ref row := by
      have : rows[i]? = some v := by simpa using hv
      rw [hrw] at this; exact (Option.some.inj this).symm
    subst hv2
    have hcl := ok.cols _ _ hr
    have hil2 := hI.length
    k_steps
    rename Addr => D9
    rename (_ ∧ _) => l9
    refine LCg.CompEnd.intro (by assumption) (by assumption) ((D9, _) :: news) (by kcf_all) ⟨⟨Nat.ne_of_gt l9.1, Nat.ne_of_gt l9.2.1, Nat.ne_of_gt l9.2.2.1⟩, off⟩ (Or.inl hrl) ⟨?_, ?_⟩
    · rw [List.length_append, hys]; rfl
    · intro j r hj hjr
      by_cases e : j = i
      · subst e
        rw [hr] at hjr; cases hjr
        exact ⟨D9, its, by rw [← hys, List.getElem?_append_right (Nat.le_refl _), Nat.sub_self]; rfl, .head _, hI⟩
      · obtain ⟨tp, its', f1, f2, f3⟩ := hall j r (by omega) hjr
        exact ⟨tp, its', by rw [List.getElem?_append_left (by omega)]; exact f1, .tail _ f2, f3⟩
  · rintro ys news ⟨hys, hall⟩
    intro D h tk F₁ N₁ off
    have hysl : ys.length ≤ 3 := by rw [hys, List.size_toArray]; omega
    k_steps
    subst hQ9
    (try dsimp only)
    k_steps
    rename Fr g _ _ _ => F8
    rename News g _ _ _ => N8
    have km : g.StaysIn _ := F8.keep
    obtain ⟨as, hre⟩ := told_reads (a := a) (News.isTup N8 (.head _)) (News.isTup N8 (.tail _ (.tail _ (.head _)))) (News.isTup N8 (.tail _ (.head _))) (by rw [hys, List.size_toArray, hlen])
      (fun j r hj => by
        obtain ⟨tp, its', f1, f2, f3⟩ := hall j r (by rw [List.size_toArray, hlen]; exact (List.getElem?_eq_some_iff.mp hj).1) hj
        exact ⟨tp, its', f1, News.isTup N8 (.tail _ (.tail _ (.tail _ (.tail _ f2)))), f3⟩) (TagsAt.keeps ⟨tlen, htag⟩ km)
    exact ret _ _ _ as (fun b o e => F8.keep b o (k0 b o e)) hre ⟨_, rfl⟩
end

local macro_rules | `(tactic| k_room) => `(tactic| ((try simp only [depth_mark, depth_under_make, depth_under_kw, depth_in1, depth_deeper, depth_caller]); (try dsimp only); (show (_ : Nat) < 1000); omega))
section
set_option maxHeartbeats 8000000

local macro_rules | `(tactic| walk_at "eval ListComp") => `(tactic| (k_here; refine Paused.go ?_))
local macro_rules | `(tactic| walk_at "CompSrc") => `(tactic| (k_here; refine Paused.go ?_))

theorem dfa_ok {w : World} {p : Program} {loose : List Str} {mean : ExcName → Option Value} {mg mb : Str → Option Value} {dp un : Nat} {gd : Option (List Code)} {env : Env} {outer : List Env}
    {A₀ : Around} {base h₀ : Heap} {L : Addr} {m : Str → Option Value} {s : Shared} {Q E : Value → Shared → Prop}
    (B : Below A₀ base outer h₀) (F : Fr h₀ L s.heap m) (X : (hd.heap_1 w.params).In h₀) (T : Top p loose mean mg mb h₀) (hf : env.frame = some L) (hke : env.scope.kind = .function) (hdp : dp < 900)
    {t : Addr} {a : Aut} (D : AutAt s.heap t a) (ok : a.Ok)
    (ret : ∀ h' tk' x, s.heap.StaysIn h' → NewIn s.heap h' (fun k => DfaAt k x a) → Q (.ref x) { s with heap := h', toks := tk' }) :
    wpAny (model Challenge.rw_ok0116_01.row.prog w) { handled := none, depth := dp, frames := some (env :: outer), guards := gd, units := un } (call (.ref 436) [.ref t]) Q E s := by
  w_top off
  revert X; k_fill; intro X
  refine wpAny_call ?_
  refine' code_defG (news := []) B F X News.nil T rfl hf hke ?k6 ?k7 ?k8 ?k9 ?kB ?_ ?c2 ?c3 ?c4 ?c5
  (case k6 => k_is)
  (case k7 => k_is)
  (case k8 => (show dp < recursionLimit; unfold recursionLimit; omega))
  (case k9 => exact BindsTo.of_eq rfl)
  (case c5 => decide)
  (case kB => exact locs rfl)
  (case c2 => exact rfl)
  (case c3 => exact rfl)
  (case c4 => exact rfl)
  intro g L' h₁ FG F' N' B' X' T' GS
  have k0 : s.heap.StaysIn g := fun b o e => GS b o e (by simp)
  obtain ⟨rl, gl, rows, gv, hT, hrl, hgl, hR, hB⟩ := (D.keeps k0).at_
  obtain ⟨hlen, hrow⟩ := hR
  have h3 := ok.three
  have h4 := ok.same
  have hgv := hB.length
  try k_fold
  refine' wp_gen2 ?hE9 ?_
  (case hE9 => passes_own)
  intro Q9 E9 hQ9 hE9 hP9
  k_steps
  refine Paused.mk ?_
  refine LCg.ListComp_U (F₀ := by k_asm) (by with_unfolding_all rfl) (by decide) (by rfl) (by decide) (by rfl) ?_
  k_steps
  refine Paused.mk ?_
  rename Fr _ _ _ _ => F9
  rename News _ _ _ _ => N9
  refine LCg.CompSrc.base rfl F9 N9 hrl (by rw [List.size_toArray, PySem.sizeLine_eq]; omega) ?_
  intro g9
  refine comp_rest (fun i ys news => ys.length = i ∧ ∀ (j : Nat) (r : List Int), j < i → a.rows[j]? = some r → ∃ (tp : Addr) (its : List Value) (n : Nat), ys[j]? = some (.ref tp) ∧ (tp, listOf its.toArray n) ∈ news ∧ IntsAre its r) ⟨rfl, fun j r h => absurd h (Nat.not_lt_zero _)⟩ ?_ ?_
  · rintro i v I oI C oC D m₂ ys news h tk E' hi hv ⟨hys, hall⟩ hC hx F₁ N₁ off ne
    have hil : i < a.rows.length := by rw [← hlen]; simpa using hi
    have hr : a.rows[i]? = some a.rows[i] := List.getElem?_eq_getElem hil
    obtain ⟨row, its, hrw, hL, hI⟩ := hrow i _ hr
    have hv2 : v = .ref row := by
      have : rows[i]? = some v := by simpa using hv
      rw [hrw] at this; exact (Option.some.inj this).symm
    subst hv2
    have hcl := ok.cols _ _ hr
    have hil2 := hI.length
    k_steps
    rename News _ _ _ (_ :: _) => N8
    rename (_ ∧ _) => l9
    refine LCg.CompEnd.intro (by assumption) N8 (_ :: news) (List.forall_mem_cons.mpr ⟨.tail _ (.head _), List.forall_mem_cons.mpr ⟨.tail _ (.tail _ (.head _)), List.forall_mem_cons.mpr ⟨.tail _ (.tail _ (.tail _ (.head _))), List.forall_mem_cons.mpr ⟨.head _, fun p hp => .tail _ (.tail _ (.tail _ (.tail _ hp)))⟩⟩⟩⟩)
      ⟨⟨Nat.ne_of_gt l9.1, Nat.ne_of_gt l9.2.1, Nat.ne_of_gt l9.2.2.1⟩, off⟩ (Or.inl hrl) ⟨?_, ?_⟩
    · rw [List.length_append, hys]; rfl
    · intro j r hj hjr
      by_cases e : j = i
      · subst e
        rw [hr] at hjr; cases hjr
        exact ⟨_, its, _, by rw [← hys, List.getElem?_append_right (Nat.le_refl _), Nat.sub_self]; rfl, .head _, hI⟩
      · obtain ⟨tp, its', n, f1, f2, f3⟩ := hall j r (by omega) hjr
        exact ⟨tp, its', n, by rw [List.getElem?_append_left (by omega)]; exact f1, .tail _ f2, f3⟩
  · rintro ys news ⟨hys, hall⟩
    intro D h tk F₁ N₁ off
    have hysl : ys.length ≤ 3 := by rw [hys, List.size_toArray]; omega
    k_steps
    refine Paused.mk ?_
    refine LCg.ListComp_U (F₀ := by k_asm) (by with_unfolding_all rfl) (by decide) (by rfl) (by decide) (by rfl) ?_
    k_steps
    refine Paused.mk ?_
    rename Fr _ _ _ _ => F7
    rename News _ _ _ _ => N7
    refine LCg.CompSrc.base rfl F7 N7 hgl (by rw [List.size_toArray, PySem.sizeLine_eq]; omega) ?_
    intro g7
    refine comp_rest (fun i zs news' => zs.length = i ∧ (∀ p ∈ (D, LCg.lst ys) :: news, p ∈ news') ∧ ∀ (j : Nat) (b : Bool), j < i → a.tags[j]? = some b → ∃ (tp : Addr) (t : Tok) (n : Nat), zs[j]? = some (.ref tp) ∧ (tp, ({ cls := .type "tuple", data := .seq (if b then #[.int 0 t] else #[]) n } : Obj)) ∈ news') ⟨rfl, fun _ hp => hp, fun j r h => absurd h (Nat.not_lt_zero _)⟩ ?_ ?_
    · rintro i v I oI C oC D2 m₂ zs news' h tk E' hi hv ⟨hzs, hsub, hall2⟩ hC hx F₂ N₂ off2 ne
      have hil : i < a.tags.length := by rw [← hgv]; simpa using hi
      have hr : a.tags[i]? = some a.tags[i] := List.getElem?_eq_getElem hil
      have hv2 : v = .bool a.tags[i] := by
        have e1 : gv[i]? = some v := by simpa using hv
        rw [kbo_at hB i hil] at e1
        rw [← Option.some.inj e1, List.getD_eq_getElem?_getD, hr]; rfl
      subst hv2
      generalize a.tags[i] = bb at hr hx
      cases bb
      · k_steps
        rename News _ _ _ (_ :: _) => N8
        rename (_ ∧ _) => l9
        refine LCg.CompEnd.intro (by assumption) N8 (_ :: news') (List.forall_mem_cons.mpr ⟨.tail _ (.head _), List.forall_mem_cons.mpr ⟨.tail _ (.tail _ (.head _)), List.forall_mem_cons.mpr ⟨.tail _ (.tail _ (.tail _ (.head _))), List.forall_mem_cons.mpr ⟨.head _, fun p hp => .tail _ (.tail _ (.tail _ (.tail _ hp)))⟩⟩⟩⟩)
          ⟨⟨Nat.ne_of_gt l9.1, Nat.ne_of_gt l9.2.1, Nat.ne_of_gt l9.2.2.1⟩, off2⟩ (Or.inl hgl) ⟨?_, fun p hp => .tail _ (hsub p hp), ?_⟩
        · rw [List.length_append, hzs]; rfl
        · intro j b hj hjr
          by_cases e : j = i
          · subst e
            rw [hr] at hjr; cases hjr
            exact ⟨_, 0, _, by rw [← hzs, List.getElem?_append_right (Nat.le_refl _), Nat.sub_self]; rfl, .head _⟩
          · obtain ⟨tp, t', n, f1, f2⟩ := hall2 j b (by omega) hjr
            exact ⟨tp, t', n, by rw [List.getElem?_append_left (by omega)]; exact f1, .tail _ f2⟩
      · k_steps
        rename News _ _ _ (_ :: _) => N8
        rename (_ ∧ _) => l9
        refine LCg.CompEnd.intro (by assumption) N8 (_ :: news') (List.forall_mem_cons.mpr ⟨.tail _ (.head _), List.forall_mem_cons.mpr ⟨.tail _ (.tail _ (.head _)), List.forall_mem_cons.mpr ⟨.tail _ (.tail _ (.tail _ (.head _))), List.forall_mem_cons.mpr ⟨.head _, fun p hp => .tail _ (.tail _ (.tail _ (.tail _ hp)))⟩⟩⟩⟩)
          ⟨⟨Nat.ne_of_gt l9.1, Nat.ne_of_gt l9.2.1, Nat.ne_of_gt l9.2.2.1⟩, off2⟩ (Or.inl hgl) ⟨?_, fun p hp => .tail _ (hsub p hp), ?_⟩
        · rw [List.length_append, hzs]; rfl
        · intro j b hj hjr
          by_cases e : j = i
          · subst e
            rw [hr] at hjr; cases hjr
            exact ⟨_, _, _, by rw [← hzs, List.getElem?_append_right (Nat.le_refl _), Nat.sub_self]; rfl, .head _⟩
          · obtain ⟨tp, t', n, f1, f2⟩ := hall2 j b (by omega) hjr
            exact ⟨tp, t', n, by rw [List.getElem?_append_left (by omega)]; exact f1, .tail _ f2⟩
    · rintro zs news' ⟨hzs, hsub, hall2⟩
      intro D2 h tk F₂ N₂ off2
      k_steps
      subst hQ9
      (try dsimp only)
      k_steps
      rename Fr g _ _ _ => F8
      rename News g _ _ _ => N8
      refine ret _ _ _ (fun b o e => F8.keep b o (k0 b o e)) (newIn_of k0 N8 fun k hk => ⟨_, _, D, D2, _, _, _, _, ys, zs, has_inst hk (.head _) (.tail _ (.head _)),
        has_isList hk (.tail _ (.tail _ (.tail _ (hsub _ (.head _))))), has_isList hk (.tail _ (.tail _ (.head _))), ⟨by rw [hys, List.size_toArray, hlen], fun j r hj => ?_⟩, ⟨by rw [hzs, List.size_toArray, hgv], fun j b hj => ?_⟩⟩)
      · obtain ⟨tp, its', n, f1, f2, f3⟩ := hall j r (by rw [List.size_toArray, hlen]; exact (List.getElem?_eq_some_iff.mp hj).1) hj
        exact ⟨tp, its', f1, has_isList hk (.tail _ (.tail _ (.tail _ (hsub _ (.tail _ f2))))), f3⟩
      · obtain ⟨tp, t', n, f1, f2⟩ := hall2 j b (by rw [List.size_toArray, hgv]; exact (List.getElem?_eq_some_iff.mp hj).1) hj
        exact ⟨tp, t', f1, has_isTup hk (.tail _ (.tail _ (.tail _ f2)))⟩
end

section
set_option maxHeartbeats 8000000

local macro_rules | `(tactic| walk_at "eval ListComp") => `(tactic| (k_here; refine Paused.go ?_))
local macro_rules | `(tactic| walk_at "CompSrc") => `(tactic| (k_here; refine Paused.go ?_))

local macro_rules | `(tactic| k_mem) => `(tactic| assumption)
local macro_rules | `(tactic| walk_at "callWith ref") => `(tactic| (k_here; k_dflt (refine' callWith_F (FnAt.of (by k_asm) (by k_mem)) ?_; k_whole)))
local macro_rules | `(tactic| walk_at "FnAt") => `(tactic| (k_dflt (exact FnAt.of (by k_asm) (by k_mem))))
local macro_rules | `(tactic| k_ne) => `(tactic| first | assumption | exact Ne.symm (by assumption))
local macro_rules | `(tactic| k_all) => `(tactic| assumption)
local macro_rules | `(tactic| walk_at "call ref") => `(tactic| k_dflt (refine' take_use (by assumption) (by assumption) (by assumption) (by assumption) (by assumption) rfl rfl (by first | omega | (dsimp only; omega)) (by assumption) (by k_mem) (by repeat (first | exact sub_refl9 | assumption | refine sub_cons9 ?_)) (by first | assumption | omega) (by first | assumption | omega) (by first | decide | omega) (by first | decide | omega) ?_; k_whole; intro h' tk' r' t' kt' F' N' x' hpl' r0' r1'; (replace N' := N' _ (by k_upd))))

theorem auto_ok {w : World} {p : Program} {loose : List Str} {mean : ExcName → Option Value} {mg mb : Str → Option Value} {dp un : Nat} {gd : Option (List Code)} {env : Env} {outer : List Env}
    {A₀ : Around} {base h₀ : Heap} {L : Addr} {m : Str → Option Value} {s : Shared} {Q E : Value → Shared → Prop}
    (B : Below A₀ base outer h₀) (F : Fr h₀ L s.heap m) (X : (hd.heap_1 w.params).In h₀) (T : Top p loose mean mg mb h₀) (hf : env.frame = some L) (hke : env.scope.kind = .function) (hdp : dp < 800)
    {f pl : Addr} {TO : List (Addr × Obj)} {k : Int} {kt : Tok} (TS : TakeSpec w f pl TO) (hfn : ∃ oc od fd sl, (f, (⟨oc, od, .func fd, sl⟩ : Obj)) ∈ TO) (N : News h₀ L s.heap ((pl, listOf #[.int k kt] 0) :: TO)) (neTO : ∀ q ∈ TO, @Ne Nat q.1 pl) (hk0 : 0 ≤ k) (hk1 : k < 360)
    (ret : ∀ h' tk' t k' kt' a, (∀ b o, b ≠ pl → s.heap.get? b = some o → h'.get? b = some o) → h'.get? pl = some (listOf #[.int k' kt'] 0) → k ≤ k' → k' ≤ k + 40 → a.Ok → NewIn s.heap h' (fun q => AutAt q t a) → Q (.ref t) { s with heap := h', toks := tk' }) :
    wpAny (model Challenge.rw_ok0116_01.row.prog w) { handled := none, depth := dp, frames := some (env :: outer), guards := gd, units := un } (call (.ref 431) [.ref f]) Q E s := by
  obtain ⟨oc, od, fd, sl, hfm⟩ := hfn
  w_top off
  revert X; k_fill; intro X
  refine wpAny_call ?_
  refine' enterCN B F X N T rfl hf hke ?k6 ?k7 ?k8 ?k9 ?kB ?kD ?_ ?c2 ?c3 ?c4
  (case k6 => k_is)
  (case k7 => k_is)
  (case k8 => (show dp < recursionLimit; unfold recursionLimit; omega))
  (case k9 => exact BindsTo.of_eq rfl)
  (case kB => exact rfl)
  (case kD => decide +kernel)
  (case c2 => exact rfl)
  (case c3 => exact rfl)
  (case c4 => exact rfl)
  intro g L' h₁ tk cells GS F' N' Y' B' X' T' l1
  have neC1 : ∀ q ∈ TO, @Ne Nat q.1 (L' + 1) := fun q hq => Nat.ne_of_lt (Nat.lt_succ_of_lt (l1 q (.tail _ hq)))
  have neC2 : ∀ q ∈ TO, @Ne Nat q.1 (L' + 1 + 1) := fun q hq => Nat.ne_of_lt (Nat.lt_succ_of_lt (Nat.lt_succ_of_lt (l1 q (.tail _ hq))))
  have q1 : @Ne Nat pl (L' + 1) := Nat.ne_of_lt (Nat.lt_succ_of_lt (l1 _ (.head _)))
  have q2 : @Ne Nat pl (L' + 1 + 1) := Nat.ne_of_lt (Nat.lt_succ_of_lt (Nat.lt_succ_of_lt (l1 _ (.head _))))
  have q3 : @Ne Nat (L' + 1) (L' + 1 + 1) := Nat.ne_of_lt (Nat.lt_succ_self _)
  k_lt l1
  k_cells Y'
  try simp only [List.cons_append, List.nil_append] at N'
  try dsimp only
  try k_fold
  refine' wp_gen2 ?hE9 ?_
  (case hE9 => passes_own)
  intro Q9 E9 hQ9 hE9 hP9
  k_steps
  refine Paused.mk ?_
  rename IsRange _ _ _ _ _ _ _ _ => hR
  rename Fr _ _ _ _ => F9
  rename News _ _ _ _ => N9
  rename Int => r9
  rename 0 ≤ r9 => r90
  rename r9 < 3 => r91
  obtain ⟨oA, oB, kA, ⟨tA, dA⟩, dB, N8⟩ : ∃ oA oB kA, (∃ tA, oA.data = .cell (some (.int (1 + r9) tA))) ∧ oB.data = .cell (some (.ref f)) ∧ News g L' _ ((L' + 1 + 1, oA) :: (L' + 1, oB) :: (pl, listOf #[.int (k + 1) kA] 0) :: TO) := by
    refine ⟨_, _, _, ?_, ?_, N9⟩
    · exact ⟨_, by assumption⟩
    · assumption
  clear N9
  refine LCg.CompSrc.range rfl F9 N8 hR (small_r1' r90 r91) (rangeSize_nat _ _) (by rw [PySem.sizeLine_eq]; omega) ?_
  intro g9
  refine comp_rest (fun i ys news => ys.length = i ∧ ∃ (k' : Int) (kt' : Tok) (Y : List (Addr × Obj)) (rs : List (List Int)), news = (L' + 1 + 1, oA) :: (L' + 1, oB) :: (pl, listOf #[.int k' kt'] 0) :: Y ∧ k + 1 ≤ k' ∧ k' ≤ k + 1 + 6 * (i : Int) ∧
    (∀ q ∈ TO, q ∈ Y) ∧ (∀ q ∈ Y, @Ne Nat q.1 pl) ∧ rs.length = i ∧ ∀ (j : Nat) (r : List Int), rs[j]? = some r → r.length = 3 ∧ (∀ v ∈ r, -1 ≤ v ∧ v < 1 + r9) ∧ ∃ (row : Addr) (its : List Value) (n : Nat), ys[j]? = some (.ref row) ∧ (row, listOf its.toArray n) ∈ Y ∧ IntsAre its r ∧ s.heap.get? row = none)
    ⟨rfl, k + 1, kA, TO, [], rfl, by omega, by omega, fun q hq => hq, neTO, rfl, fun j r h => nomatch h⟩ ?_ ?_
  · rintro i v I oI C oC D m₂ ys news h tk E' hi ⟨tv, rfl⟩ ⟨hys, k', kt', Y, rs, rfl, hk'0, hk'1, hTO, neY, hrs, hall⟩ hC hx F₁ N₁ off ne
    obtain ⟨a0, a1⟩ := om_a1 hk0 hk1 hk'0 hk'1 hi r91
    obtain ⟨n1, n2, n3⟩ := ne
    have hfY := hTO _ hfm
    k_steps
    refine Paused.mk ?_
    refine LCg.ListComp_U (F₀ := by k_asm) (by with_unfolding_all rfl) (by decide) (by rfl) (by decide) (by rfl) ?_
    k_steps
    refine Paused.mk ?_
    rename IsRange _ _ _ _ _ _ _ _ => hR2
    rename Fr _ _ _ _ => F7
    rename News _ _ _ _ => N7
    obtain ⟨p1, p2, p3⟩ := off.mem (pl, listOf #[.int k' kt'] 0) (.tail _ (.tail _ (.head _)))
    have p1 : @Ne Nat pl I := p1
    have p2 : @Ne Nat pl C := p2
    have p3 : @Ne Nat pl D := p3
    refine LCg.CompSrc.range rfl F7 N7 hR2 (small_le (by decide) (by decide)) (rangeSize_nat _ _) (by rw [PySem.sizeLine_eq]; decide) ?_
    intro g7
    refine comp_rest (fun j zs news => zs.length = j ∧ ∃ (k2 : Int) (kt2 : Tok) (ns : List Int), news = (I, oI) :: (C, oC) :: (D, LCg.lst ys) :: (L' + 1 + 1, oA) :: (L' + 1, oB) :: (pl, listOf #[.int k2 kt2] 0) :: Y ∧ k' ≤ k2 ∧ k2 ≤ k' + 2 * (j : Int) ∧
      IntsAre zs ns ∧ ∀ v ∈ ns, -1 ≤ v ∧ v < 1 + r9) ⟨rfl, k', kt', [], rfl, by omega, by omega, .nil, fun v hv => nomatch hv⟩ ?_ ?_
    · rintro j v I2 oI2 C2 oC2 D2 m₃ zs news h2 tk2 E2 hj ⟨tv2, rfl⟩ ⟨hzs, k2, kt2, ns, rfl, hk20, hk21, hzi, hns⟩ hC2 hx2 F₂ N₂ off2 ne2
      obtain ⟨b0, b1, b2, b3⟩ := om_a2 ⟨a0, a1⟩ hk20 hk21 hj
      obtain ⟨p4, p5, p6⟩ := off2.mem (pl, listOf #[.int k2 kt2] 0) (.tail _ (.tail _ (.tail _ (.tail _ (.tail _ (.head _))))))
      have p4 : @Ne Nat pl I2 := p4
      have p5 : @Ne Nat pl C2 := p5
      have p6 : @Ne Nat pl D2 := p6
      k_steps
      · rename Int => r8
        rename 0 ≤ r8 => r80
        rename r8 < 1 + r9 + 1 => r81
        rename News _ _ _ _ => N6
        refine LCg.CompEnd.intro (by assumption) N6 _ (fun q hq => hq) (off3_addr off2 rfl) trivial ⟨by rw [List.length_append, hzs]; rfl, _, _, ns ++ [r8 - 1], rfl, by omega, by omega, IntsAre.append hzi (.cons _ _ .nil), fun v hv => ?_⟩
        rcases List.mem_append.mp hv with hv | hv
        · exact hns v hv
        · rw [List.mem_singleton.mp hv]; omega
      · rename News _ _ _ _ => N6
        refine LCg.CompEnd.intro (by assumption) N6 _ (fun q hq => hq) (off3_addr off2 rfl) trivial ⟨by rw [List.length_append, hzs]; rfl, _, _, ns ++ [0], rfl, by omega, by omega, IntsAre.append hzi (.cons _ _ .nil), fun v hv => ?_⟩
        rcases List.mem_append.mp hv with hv | hv
        · exact hns v hv
        · rw [List.mem_singleton.mp hv]; omega
    · rintro zs news ⟨hzs, k2, kt2, ns, rfl, hk20, hk21, hzi, hns⟩
      intro D2 h2 tk2 F₂ N₂ off2
      k_steps
      have f1 : s.heap.get? D2 = none := fresh_of GS (N₂ _ (.head _)).2.2 fun q hq => by
        rcases List.mem_cons.mp hq with rfl | hq
        · exact off2.2.2.2.2.2.1
        · exact off1_mem off2 q (.tail _ (.tail _ (.tail _ (.tail _ (.tail _ (.tail _ (hTO q hq)))))))
      have hz3 : zs.length = 3 := hzs
      have hnl := hzi.length
      refine LCg.CompEnd.intro (by assumption) N₂ ((L' + 1 + 1, oA) :: (L' + 1, oB) :: (pl, listOf #[.int k2 kt2] 0) :: (D2, LCg.lst zs) :: Y) (by kcf_all)
        ⟨off.1, off.2.1, off.2.2.1, ⟨Ne.symm off2.1, Ne.symm off2.2.1, Ne.symm off2.2.2.1⟩, off.2.2.2⟩ trivial ⟨by rw [List.length_append, hys]; rfl, k2, kt2, (D2, LCg.lst zs) :: Y, rs ++ [ns], rfl, by omega, by omega, fun q hq => .tail _ (hTO q hq), fun q hq => ?_, by rw [List.length_append, hrs]; rfl, fun j r hj => ?_⟩
      · rcases List.mem_cons.mp hq with rfl | hq
        · exact Ne.symm off2.2.2.2.2.2.1
        · exact neY q hq
      · by_cases e : j = i
        · subst e
          rw [← hrs, List.getElem?_append_right (Nat.le_refl _), Nat.sub_self] at hj
          have hj : r = ns := by simpa using hj.symm
          subst hj
          exact ⟨by omega, hns, D2, zs, zs.length, by rw [← hys, List.getElem?_append_right (Nat.le_refl _), Nat.sub_self]; rfl, .head _, hzi, f1⟩
        · have hji : j < i := by
            have := (List.getElem?_eq_some_iff.mp hj).1
            rw [List.length_append, hrs] at this
            simp only [List.length_cons, List.length_nil] at this
            omega
          rw [List.getElem?_append_left (by omega)] at hj
          obtain ⟨g1, g2, row, its, n, g3, g4, g5, g6⟩ := hall j r hj
          exact ⟨g1, g2, row, its, n, by rw [List.getElem?_append_left (by omega)]; exact g3, .tail _ g4, g5, g6⟩
  · rintro ys news ⟨hys, k', kt', Y, rs, rfl, hk'0, hk'1, hTO, neY, hrs, hall⟩
    intro D h tk F₁ N₁ off
    have hfY := hTO _ hfm
    k_steps
    refine Paused.mk ?_
    refine LCg.ListComp_U (F₀ := by k_asm) (by with_unfolding_all rfl) (by decide) (by rfl) (by decide) (by rfl) ?_
    k_steps
    refine Paused.mk ?_
    rename IsRange _ _ _ _ _ _ _ _ => hR2
    rename Fr _ _ _ _ => F7
    rename News _ _ _ _ => N7
    refine LCg.CompSrc.range rfl F7 N7 hR2 (small_r1' r90 r91) (rangeSize_nat _ _) (by rw [PySem.sizeLine_eq]; omega) ?_
    intro g7
    refine comp_rest (fun j zs news => zs.length = j ∧ ∃ (k2 : Int) (kt2 : Tok) (bs : List Bool), news = (D, LCg.lst ys) :: (L' + 1 + 1, oA) :: (L' + 1, oB) :: (pl, listOf #[.int k2 kt2] 0) :: Y ∧ k' ≤ k2 ∧ k2 ≤ k' + (j : Int) ∧
      LSm.BoolsAre zs bs) ⟨rfl, k', kt', [], rfl, by omega, by omega, .nil⟩ ?_ ?_
    · rintro j v I2 oI2 C2 oC2 D2 m₃ zs news h2 tk2 E2 hj ⟨tv2, rfl⟩ ⟨hzs, k2, kt2, bs, rfl, hk20, hk21, hzb⟩ hC2 hx2 F₂ N₂ off2 ne2
      obtain ⟨b0, b1⟩ := om_a3 hk0 hk1 hk'0 hk'1 rfl r91 r90 hk20 hk21 hj
      obtain ⟨p4, p5, p6⟩ := off2.mem (pl, listOf #[.int k2 kt2] 0) (.tail _ (.tail _ (.tail _ (.head _))))
      have p4 : @Ne Nat pl I2 := p4
      have p5 : @Ne Nat pl C2 := p5
      have p6 : @Ne Nat pl D2 := p6
      have p7 : @Ne Nat pl D := off1_mem off (pl, listOf #[.int k' kt'] 0) (.tail _ (.tail _ (.head _)))
      k_steps
      rename News _ _ _ _ => N6
      exact LCg.CompEnd.intro (by assumption) N6 _ (fun q hq => hq) (off3_addr off2 rfl) trivial ⟨by rw [List.length_append, hzs]; rfl, _, _, bs ++ [_], rfl, by omega, by omega, kbo_app hzb (.cons _ .nil)⟩
    · rintro zs news ⟨hzs, k2, kt2, bs, rfl, hk20, hk21, hzb⟩
      intro D2 h2 tk2 F₂ N₂ off2
      have fD : s.heap.get? D = none := fresh_of GS (N₂ _ (.tail _ (.head _))).2.2 fun q hq => by
        rcases List.mem_cons.mp hq with rfl | hq
        · exact off.2.2.1
        · exact off1_mem off q (.tail _ (.tail _ (.tail _ (hTO q hq))))
      have fD2 : s.heap.get? D2 = none := fresh_of GS (N₂ _ (.head _)).2.2 fun q hq => by
        rcases List.mem_cons.mp hq with rfl | hq
        · exact off2.2.2.2.1
        · exact off1_mem off2 q (.tail _ (.tail _ (.tail _ (.tail _ (hTO q hq)))))
      k_steps
      subst hQ9
      (try dsimp only)
      k_steps
      rename Addr => D9
      rename Fr g L' _ _ => F8
      rename News g L' _ _ => N8
      rename (D2 < D9 ∧ _) => l9
      have fD9 : s.heap.get? D9 = none := fresh_of GS (N8 _ (.head _)).2.2 fun q hq => by
        rcases List.mem_cons.mp hq with rfl | hq
        · exact Nat.ne_of_lt l9.2.2.2.2.1
        · exact Nat.ne_of_lt (ktn_ltOf l9.2.2.2.2.2 q (hTO q hq))
      have hbl := hzb.length
      have hmany : zs.length = (1 + r9 - 0).toNat := hzs
      have hmany2 : rs.length = (1 + r9 - 0).toNat := hrs
      refine ret _ _ D9 k2 kt2 ⟨rs, bs⟩ (fun b o hb e => ?_) (N8 _ (.tail _ (.tail _ (.tail _ (.tail _ (.tail _ (.head _))))))).1 (by omega) (by omega) ⟨by show bs.length = rs.length; omega, by show 0 < rs.length; omega, by show rs.length ≤ 3; omega, fun i r hr => (hall i r hr).1, fun i r j v hr hv => ((hall i r hr).2.1 v (List.mem_of_getElem? hv)).1,
        fun i r j v hr hv => by have := ((hall i r hr).2.1 v (List.mem_of_getElem? hv)).2; show v < (rs.length : Int); omega⟩ ?_
      · by_cases hm : b ∈ (((pl, listOf #[.int k kt] 0) : Addr × Obj) :: TO).map (·.1)
        · obtain ⟨q, hq, rfl⟩ := List.mem_map.mp hm
          rcases List.mem_cons.mp hq with rfl | hq
          · exact absurd rfl hb
          · have e2 := (N q (.tail _ hq)).1
            rw [e] at e2; cases e2
            exact (N8 q (.tail _ (.tail _ (.tail _ (.tail _ (.tail _ (.tail _ (hTO q hq)))))))).1
        · exact F8.keep b o (GS b o e hm)
      · intro q hq
        have has : ∀ (b : Addr) (o : Obj), (b, o) ∈ (D9, _) :: _ → s.heap.get? b = none → q.get? b = some o := fun b o hm hn => hq b o hn (N8 (b, o) hm).1
        refine ⟨D, D2, ys, zs, ⟨_, has _ _ (.head _) fD9, rfl, _, rfl⟩, ⟨_, has _ _ (.tail _ (.tail _ (.head _))) fD, rfl, _, rfl⟩, ⟨_, has _ _ (.tail _ (.head _)) fD2, rfl, _, rfl⟩, ⟨by show ys.length = rs.length; rw [hys, hrs], fun i r hr => ?_⟩, hzb⟩
        obtain ⟨g1, g2, row, its, n, g3, g4, g5, g6⟩ := hall i r hr
        exact ⟨row, its, g3, ⟨_, has _ _ (.tail _ (.tail _ (.tail _ (.tail _ (.tail _ (.tail _ g4)))))) g6, rfl, _, rfl⟩, g5⟩
end

section
set_option maxHeartbeats 8000000

local macro_rules | `(tactic| units_room) => `(tactic| ((try simp only [units_in1, units_deeper, Around.mark_units, units_caller]); (try dsimp only); (show (_ : Nat) < 9900); omega))
local macro_rules | `(tactic| k_units) => `(tactic| ((try simp only [units_in1, units_deeper, Around.mark_units, units_caller]); (try dsimp only); first | (show (_ : Nat) < 9900; omega) | (show (_ : Nat) <= 9900; omega)))

theorem reorder2 {h h' : Heap} {L : Addr} {a b x c d e i j y z : Addr × Obj} (N : News h L h' [a, b, x, c, d, e, i, j, y, z]) : News h L h' (x :: z :: y :: [a, b, c, d, e, i, j]) := fun q hq => N q (by
  simp only [List.mem_cons, List.not_mem_nil, or_false] at hq ⊢
  rcases hq with hq | hq | hq | hq | hq | hq | hq | hq | hq | hq <;> simp [hq])
theorem reorder1 {h h' : Heap} {L : Addr} {a b x c d i j y z : Addr × Obj} (N : News h L h' [a, b, x, c, d, i, j, y, z]) : News h L h' (x :: z :: y :: [a, b, c, d, i, j]) := fun q hq => N q (by
  simp only [List.mem_cons, List.not_mem_nil, or_false] at hq ⊢
  rcases hq with hq | hq | hq | hq | hq | hq | hq | hq | hq <;> simp [hq])

theorem pow_take {prog : Program} {w : World} {A : Around} {E : Value → Shared → Prop} {s : Shared} {Q : Value → Shared → Prop} {n : Int} {t u : Tok} (hn : 0 ≤ n ∧ n ≤ 400) (h : ∀ r : Int, 0 < r → r.natAbs.log2 < 9000 → Q (.int r s.toks) { s with toks := s.toks + 1 }) :
    wpAny (model prog w) A (binaryOp .Pow (.int 720720 t) (.int n u)) Q E s := by
  refine pow_int_small hn.1 (Int.le_trans hn.2 (by decide)) (by decide) (h _ (Int.pow_pos (by decide)) ?_)
  rw [Int.natAbs_pow]
  have h1 : (720720 : Int).natAbs ^ n.toNat ≤ (2 ^ 20) ^ n.toNat := Nat.pow_le_pow_left (by decide) _
  rw [← Nat.pow_mul] at h1
  have h2 : 2 ^ (20 * n.toNat) ≤ 2 ^ 8000 := Nat.pow_le_pow_right (by decide) (by omega)
  have h0 : (720720 : Int).natAbs ^ n.toNat ≠ 0 := Nat.ne_of_gt (Nat.pow_pos (by decide))
  exact Nat.lt_trans ((Nat.log2_lt h0).mpr (Nat.lt_of_le_of_lt (Nat.le_trans h1 h2) (Nat.pow_lt_pow_right (by decide) (by decide : 8000 < 8001)))) (by decide)
theorem fdiv_lev {k L : Int} (k0 : 0 ≤ k) (k1 : k < 400) (hL : 0 < L) : 0 ≤ k.fdiv L ∧ k.fdiv L ≤ 400 := by
  rw [Int.fdiv_eq_ediv_of_nonneg _ (Int.le_of_lt hL)]
  exact ⟨Int.ediv_nonneg k0 (Int.le_of_lt hL), Int.le_trans (Int.ediv_le_self _ k0) (Int.le_of_lt k1)⟩
local macro_rules | `(tactic| walk_at "binaryOp Pow int int") => `(tactic| (k_dflt (refine pow_take (fdiv_lev (by (try simp only [List.getD_cons_zero, Int.toNat_zero]); assumption) (by (try simp only [List.getD_cons_zero, Int.toNat_zero]); assumption) (by omega)) ?_); intro r9 hr9 hl9))
local macro_rules | `(tactic| walk_at "binaryOp FloorDiv int int") => `(tactic| (k_here; (with_reducible refine floordiv_int (by omega) ?_ (Or.inl (PyProof.noPylong_of_log2 (by assumption))))))
theorem fmod_in (a : Int) {b : Int} (hb : 0 < b) : 0 ≤ a.fmod b ∧ a.fmod b < b := by
  rw [Int.fmod_eq_emod_of_nonneg _ (Int.le_of_lt hb)]
  exact ⟨Int.emod_nonneg _ (by omega), Int.emod_lt_of_pos _ hb⟩
theorem back_ext {h₀ h g h' : Heap} {L L' pl : Addr} {o0 : Obj} {TO : List (Addr × Obj)} {m' : Str → Option Value} (GS : GSub h g (((pl, o0) :: TO).map (·.1))) (F8 : Fr g L' h' m') (N : News h₀ L h ((pl, o0) :: TO)) (k : ∀ q ∈ TO, h'.get? q.1 = some q.2) : ∀ b o, b ≠ pl → h.get? b = some o → h'.get? b = some o := fun b o hb e => by
  by_cases hm : b ∈ ((pl, o0) :: TO).map (·.1)
  · obtain ⟨q, hq, rfl⟩ := List.mem_map.mp hm
    rcases List.mem_cons.mp hq with rfl | hq
    · exact absurd rfl hb
    · have e2 := (N q (.tail _ hq)).1
      rw [e] at e2; cases e2
      exact k q hq
  · exact F8.keep b o (GS b o e hm)
theorem all0 {a b c : Nat} : ∀ q ∈ ([] : List (Addr × Obj)), @Ne Nat q.1 a ∧ @Ne Nat q.1 b ∧ @Ne Nat q.1 c := fun _ h => nomatch h
theorem all3 {x : Addr × Obj} {l : List (Addr × Obj)} {a b c : Nat} (h1 : @Ne Nat x.1 a) (h2 : @Ne Nat x.1 b) (h3 : @Ne Nat x.1 c) (t : ∀ q ∈ l, @Ne Nat q.1 a ∧ @Ne Nat q.1 b ∧ @Ne Nat q.1 c) : ∀ q ∈ x :: l, @Ne Nat q.1 a ∧ @Ne Nat q.1 b ∧ @Ne Nat q.1 c := fun q hq => by
  rcases List.mem_cons.mp hq with rfl | hq
  · exact ⟨h1, h2, h3⟩
  · exact t q hq

theorem taker_ok {w : World} {p : Program} {loose : List Str} {mean : ExcName → Option Value} {mg mb : Str → Option Value} {dp un : Nat} {gd : Option (List Code)} {env : Env} {outer : List Env}
    {A₀ : Around} {base h₀ : Heap} {L : Addr} {m : Str → Option Value} {s : Shared} {Q E : Value → Shared → Prop}
    (B : Below A₀ base outer h₀) (F : Fr h₀ L s.heap m) (X : (hd.heap_1 w.params).In h₀) (T : Top p loose mean mg mb h₀) (hf : env.frame = some L) (hke : env.scope.kind = .function) (hdp : dp < 700) (hun : un < 3000)
    {c0 l : Addr} {o0 : Obj} {vs : List Value} {ns : List Int} (N : News h₀ L s.heap [(c0, o0), (421, tabObj #[])]) (C : CodeHd base 425 421) (hl : h₀.IsList l vs.toArray) (hi : IntsAre vs ns) (hns : ns.length ≤ 63) (hc0 : @LT.lt Nat _ 421 c0)
    (ret : ∀ h' tk' f pl kt TO c', Fr h₀ L h' m → News h₀ L h' ((pl, listOf #[.int 0 kt] 0) :: (421, tabObj (#[] ++ #[rawInt 253, rawInt 4, .ref c'])) :: (c0, o0) :: TO) → (∀ q ∈ TO, @Ne Nat q.1 pl ∧ @Ne Nat q.1 421 ∧ @Ne Nat q.1 c0) → @Ne Nat pl 421 → @Ne Nat pl c0 → TakeSpec w f pl TO → (∃ oc od fd sl, (f, (⟨oc, od, .func fd, sl⟩ : Obj)) ∈ TO) → Q (.ref f) { s with heap := h', toks := tk' }) :
    wpAny (model Challenge.rw_ok0116_01.row.prog w) { handled := none, depth := dp, frames := some (env :: outer), guards := gd, units := un } (call (.ref 426) [.ref l]) Q E s := by
  w_top off
  revert X; k_fill; intro X
  refine wpAny_call ?_
  refine' enterCN B F X N T rfl hf hke ?k6 ?k7 ?k8 ?k9 ?kB ?kD ?_ ?c2 ?c3 ?c4
  (case k6 => k_is)
  (case k7 => k_is)
  (case k8 => (show dp < recursionLimit; unfold recursionLimit; omega))
  (case k9 => exact BindsTo.of_eq rfl)
  (case kB => exact rfl)
  (case kD => decide +kernel)
  (case c2 => exact rfl)
  (case c3 => exact rfl)
  (case c4 => exact rfl)
  intro g L' h₁ tk cells GS F' N' Y' B' X' T' l1
  have k1 : h₀.StaysIn g := fun b o e => GS b o (F.keep b o e) (fun hm => by
    obtain ⟨q, hq, e2⟩ := List.mem_map.mp hm
    rw [← e2, (N q hq).2.2] at e; cases e)
  have hl' := stays_list k1 hl
  k_lt l1
  k_cells Y'
  try simp only [List.cons_append, List.nil_append] at N'
  try dsimp only
  try k_fold
  k_steps
--BR
--BR
--BR
--BR
--BR
--BR
--BR
--BR
  rotate_left
  k_steps
  rotate_left
  · (refine ret _ _ _ _ _ _ _ (by assumption) (reorder2 (by assumption)) ?n1 ?n2 ?n3 ?ts ?fn)
    (case n1 => (repeat' (first | exact all0 | refine all3 ?_ ?_ ?_ ?_)) <;> k_ne)
    (case n2 => k_ne)
    (case n3 => k_ne)
    (case fn => exact ⟨_, _, _, _, .head _⟩)
    clear ret B F T X N hl hl' B' X' T' GS k1 hf hke hdp
    intro p loose mean mg mb dp un gd env outer A₀ base h₀ L m s Q E k lim kt lt B F X T hf hke hdp N k0 k1 l0 l1 ret
    revert X
    k_fill
    intro X
    refine wpAny_call ?_
    (refine' enterXN B F X N T rfl hf hke ?k5 ?hd ?k7 ?k8 ?k9 ?kB ?_ ?c1 ?c2 ?c3 ?c4)
    (case k5 => k_mem)
    (case hd => exact rfl)
    (case k7 => exact codeRec_news N (by k_mem) (by assumption) (by assumption))
    (case k8 => (show dp < recursionLimit; unfold recursionLimit; omega))
    (case k9 => exact BindsTo.of_eq rfl)
    (case kB => exact locs rfl)
    (case c1 => decide)
    (case c2 => exact rfl)
    (case c3 => exact rfl)
    (case c4 => exact rfl)
    intro g L' h₁ GS F' N' B' X' T' l1'
    k_lt l1'
    try dsimp only
    try k_fold
    k_steps
    rename News h₀ L _ _ => N8
    rename Fr g L' _ _ => F8
    exact ret _ _ _ _ _ (back_ext GS F8 N fun q hq => (N8 q (.tail _ hq)).1) (N8 _ (.head _)).1 (fmod_in _ l0).1 (fmod_in _ l0).2
  · (refine ret _ _ _ _ _ _ _ (by assumption) (reorder1 (by assumption)) ?n1b ?n2b ?n3b ?tsb ?fnb)
    (case n1b => (repeat' (first | exact all0 | refine all3 ?_ ?_ ?_ ?_)) <;> k_ne)
    (case n2b => k_ne)
    (case n3b => k_ne)
    (case fnb => exact ⟨_, _, _, _, .head _⟩)
    rename (decide (List.take 63 ns = []) = false) => hne9
    have hpos9 : 0 < (List.take 63 ns).length := List.length_pos_iff.mpr (of_decide_eq_false hne9)
    clear hne9
    clear ret B F T X N hl hl' B' X' T' GS k1 hf hke hdp
    intro p loose mean mg mb dp un gd env outer A₀ base h₀ L m s Q E k lim kt lt B F X T hf hke hdp N k0 k1 l0 l1 ret
    revert X
    k_fill
    intro X
    refine wpAny_call ?_
    (refine' enterXN B F X N T rfl hf hke ?k5b ?hdb ?k7b ?k8b ?k9b ?kBb ?_ ?c1b ?c2b ?c3b ?c4b)
    (case k5b => k_mem)
    (case hdb => exact rfl)
    (case k7b => exact codeRec_news N (by k_mem) (by assumption) (by assumption))
    (case k8b => (show dp < recursionLimit; unfold recursionLimit; omega))
    (case k9b => exact BindsTo.of_eq rfl)
    (case kBb => exact locs rfl)
    (case c1b => decide)
    (case c2b => exact rfl)
    (case c3b => exact rfl)
    (case c4b => exact rfl)
    intro g L' h₁ GS F' N' B' X' T' l1'
    k_lt l1'
    try dsimp only
    try k_fold
    k_steps
    rename News h₀ L _ _ => N8
    rename Fr g L' _ _ => F8
    exact ret _ _ _ _ _ (back_ext GS F8 N fun q hq => (N8 q (.tail _ hq)).1) (N8 _ (.head _)).1 (fmod_in _ l0).1 (fmod_in _ l0).2
end

end

section
section
set_option maxHeartbeats 200000
open LCg
def SrcS (prog : Program) (w : World) (A : Around) (h₀ : Heap) (L : Addr) (m : Str → Option Value) (env : Env) (elt : PySem.Expr) (x : Str) (scope : Scope) (cl : List (Str × Addr)) (tx : Str) (Q : Value → Shared → Prop) (xv : Value) (s₁ : Shared) : Prop :=
  ∃ u news, xv = .str tx u ∧ A.handled = none ∧ Fr h₀ L s₁.heap m ∧ News h₀ L s₁.heap news ∧
      ∀ s₂ : Shared, (∃ h, s₂ = { s₁ with heap := h }) → CompRest prog w A h₀ L m env elt x scope cl s₂ (fun _ => True) (SignAt tx) (FinE h₀ L m s₂ Q) tx.cps.size 0 [] news
/-- a comprehension over a text -/
theorem ListComp_S {prog : Program} {w : World} {A : Around} {s : Shared} {env : Env} {h₀ : Heap} {L : Addr} {m : Str → Option Value} {E : Value → Shared → Prop} {elt iter : PySem.Expr} {x tx : Str} {px : Pos} {scope : Scope} {cl : List (Str × Addr)} {pos : Pos} {Q : Value → Shared → Prop} (F₀ : Fr h₀ L s.heap m)
    (hclos : closureFor scope env = pure cl) (hcell : ∀ y ∈ scope.names, y.2 ≠ .cell) (hkind : scope.kind = .function)
    (hnames : ∀ y ∈ scope.names, y.2 = .local → scope.names.lookup y.1 = some .local) (hx : scope.names.lookup x = some .local) (hsz : tx.cps.size ≤ sizeLine)
    (h : wpAny (model prog w) A (eval iter env) (SrcS prog w A h₀ L m env elt x scope cl tx Q) E s)
    (hs : ∀ x, foldedSetIterable iter env x = pure x := by intro _; rfl) :
    wpAny (model prog w) A (eval (.ListComp elt [⟨.Name x px, iter, [], 0⟩] scope pos) env) Q E s := by
  rw [eval_ListComp]
  refine wpAny_comprehension_free (use := none) rfl hs hclos hkind hnames (wpAny_mono h (fun xv s₁ h₁ => ?_) fun _ _ e => e)
  obtain ⟨u, news, rfl, hh, F, N, R⟩ := h₁
  have st : ∀ (T : String) (i : Nat) (h h' : Heap) (o : Obj) (nw : List (Addr × Obj)), h.IsStrIter s₁.heap.objs.size T tx u i → h.get? s₁.heap.objs.size = some o → h'.get? s₁.heap.objs.size = some o → (∀ b o, h₀.get? b = some o → h'.get? b = some o) → News h₀ L h' nw → True → h'.IsStrIter s₁.heap.objs.size T tx u i :=
    fun T i h h' o nw x e e' _ _ _ => by obtain ⟨o', q, r⟩ := x; rw [e] at q; cases q; exact ⟨o, e', r⟩
  cases ha : tx.cps.all (· < 128)
  · refine wpAny_pyIter_wide ha ?_
    refine block_U (Walks.strWide hh _ tx u) hsz (fun i h st => by obtain ⟨o, e, _⟩ := st; exact ⟨o, e⟩) (st _) hcell hkind hx ⟨_, Heap.get?_push_size _ rfl, rfl, rfl⟩ (fun b hb => ?_)
      (F.keeps fun _ _ e => Heap.get?_push_of_some _ e) (N.grown fun _ _ e => Heap.get?_push_of_some _ e) (Nat.ne_of_lt F.ns.lt) (next_is_new F) (fun p hp => Nat.ne_of_lt (Heap.lt_size (N p hp).1)) trivial (R _ ⟨_, rfl⟩) ?_
    · rw [List.mem_singleton.mp hb]
      show s₁.heap.objs.size < (s₁.heap.push _).objs.size
      rw [Heap.size_push]; exact Nat.lt_succ_self _
    · intro D C h tk m' ys news' F' N' o1 hn hC₀ hD₀ hCL hDL hCD offC fin
      refine ⟨m', hn, fun h'' hs'' => fin D h'' tk (F'.change hs'' hCL hC₀) (fun p hp => ?_) o1⟩
      refine ⟨hs''.extBut _ _ ?_ (N' p hp).1, (N' p hp).2⟩
      rcases List.mem_cons.mp hp with rfl | hp
      · exact Ne.symm hCD
      · exact offC p hp
  · refine wpAny_pyIter_ascii ha ?_
    refine block_U (Walks.strAscii hh _ tx u) hsz (fun i h st => by obtain ⟨o, e, _⟩ := st; exact ⟨o, e⟩) (st _) hcell hkind hx ⟨_, Heap.get?_push_size _ rfl, rfl, rfl⟩ (fun b hb => ?_)
      (F.keeps fun _ _ e => Heap.get?_push_of_some _ e) (N.grown fun _ _ e => Heap.get?_push_of_some _ e) (Nat.ne_of_lt F.ns.lt) (next_is_new F) (fun p hp => Nat.ne_of_lt (Heap.lt_size (N p hp).1)) trivial (R _ ⟨_, rfl⟩) ?_
    · rw [List.mem_singleton.mp hb]
      show s₁.heap.objs.size < (s₁.heap.push _).objs.size
      rw [Heap.size_push]; exact Nat.lt_succ_self _
    · intro D C h tk m' ys news' F' N' o1 hn hC₀ hD₀ hCL hDL hCD offC fin
      refine ⟨m', hn, fun h'' hs'' => fin D h'' tk (F'.change hs'' hCL hC₀) (fun p hp => ?_) o1⟩
      refine ⟨hs''.extBut _ _ ?_ (N' p hp).1, (N' p hp).2⟩
      rcases List.mem_cons.mp hp with rfl | hp
      · exact Ne.symm hCD
      · exact offC p hp
end

section
set_option maxHeartbeats 200000
section
variable {prog : Program} {w : World} {A : Around} {E : Value → Shared → Prop} {s : Shared}
theorem sort_one {a : Addr} {vs : List Value} {n : Nat} {P : PySem.Fin → Shared → Prop} (ho : s.heap.get? a = some (seqObj "list" vs.toArray n)) (h1 : vs.length < 2)
    (h : P (.done (.ret .none)) { s with heap := sortedHeap s.heap a vs ((pairsOf vs).map (·.2)) }) :
    wpAny (model prog w) A (Builtin.«list.sort» ⟨[.ref a], []⟩) P E s := by
  rw [list_sort_plain]
  have ha : a < s.heap.objs.size := Heap.lt_size ho
  have hz : vs.length ≤ sizeLine := by rw [sizeLine_eq]; omega
  refine wpAny_bind (listItems_at ho rfl ?_)
  refine wpAny_bind (listUpdate_at ho rfl ?_ (by rw [List.size_toArray]; exact hz) (Nat.zero_le _))
  obtain ⟨e1, ho1⟩ : ∃ e1, (s.heap.update a (Obj.mapSeq fun _ => #[])).get? a = some (seqObj "list" #[] e1) := ⟨_, get?_update_seq ho (fun _ => #[])⟩
  refine wpAny_bind (seqEpoch_at ho1 rfl ?_)
  refine wpAny_bind (wpAny_newTuple ?_ hz)
  refine wpAny_bind (wpAny_newList ?_ (Nat.zero_le _))
  refine wpAny_holding ?_
  have ho6 : (((s.heap.update a (Obj.mapSeq fun _ => #[])).push (seqObj "tuple" vs.toArray 0)).push (seqObj "list" #[] 0)).get? a = some (seqObj "list" #[] e1) := by
    rw [Heap.get?_push_ne _ _ _ (by rw [size_push', Heap.size_update]; exact Nat.ne_of_lt (Nat.lt_succ_of_lt ha)), Heap.get?_push_ne _ _ _ (by rw [Heap.size_update]; exact Nat.ne_of_lt ha)]
    exact ho1
  show wpAny (model prog w) A _ P E { s with heap := ((s.heap.update a (Obj.mapSeq fun _ => #[])).push (seqObj "tuple" vs.toArray 0)).push (seqObj "list" #[] 0) }
  dsimp only
  have h2 : vs.toArray.size < 2 := by rw [List.size_toArray]; exact h1
  rw [if_pos h2, if_pos h2]
  refine wpAny_bind (wpAny_pure ?_)
  rw [StateT.run_pure]
  refine wpAny_bind (wpAny_pure ?_)
  dsimp only
  refine wpAny_bind (seqEpoch_at ho6 rfl ?_)
  refine wpAny_bind (listUpdate_at ho6 rfl ?_ (hsz2 := by rw [Array.size_map]; show (pairsOf vs).size ≤ _; rw [pairsOf_size, sizeLine_eq]; omega))
  simp only [bne_self_eq_false, Bool.false_eq_true, if_false]
  exact wpAny_pure h
theorem sorted_one {h₀ : Heap} {L : Addr} {m : Str → Option Value} {news : List (Addr × Obj)} {l : Addr} {v : Value} {Q : Value → Shared → Prop} (F : Fr h₀ L s.heap m) (N : News h₀ L s.heap news) (hl : s.heap.IsList l [v].toArray)
    (h : ∀ D c h', Fr h₀ L h' m → News h₀ L h' ((D, listOf #[v] c) :: news) → (∀ q ∈ news, q.1 < D) → Q (.ref D) { s with heap := h' }) :
    wpAny (model prog w) A (call (.builtin "sorted") [.ref l]) Q E s := by
  refine Calls.call_function_entry kind_sorted plain_sorted entry_sorted (args_sorted1 _) ?_
  unfold Builtin.«sorted»
  refine wpAny_bind (m := checkCount "sorted" 1 1 _) (wpAny_pure ?_)
  refine wpAny_bind (collect_list hl ?_ (by rw [sizeLine_eq]; exact Nat.le_of_ble_eq_true rfl))
  refine wpAny_bind (wpAny_newList ?_ (by rw [sizeLine_eq]; exact Nat.le_of_ble_eq_true rfl))
  have hsz : ((s.heap.push (seqObj "list" #[] 0)).update s.heap.objs.size (Obj.mapSeq (· ++ [v].toArray))).objs.size = s.heap.objs.size + 1 := by
    rw [Heap.size_update, size_push']
  have hoL : (((s.heap.push (seqObj "list" #[] 0)).update s.heap.objs.size (Obj.mapSeq (· ++ [v].toArray))).push (seqObj "list" [v].toArray 0)).get? (s.heap.objs.size + 1) = some (seqObj "list" [v].toArray 0) := by
    rw [← hsz]; exact Heap.get?_push_size _ rfl
  have keep : ∀ b o, s.heap.get? b = some o → (((s.heap.push (seqObj "list" #[] 0)).update s.heap.objs.size (Obj.mapSeq (· ++ [v].toArray))).push (seqObj "list" [v].toArray 0)).get? b = some o := fun b o q => by
    have hlt : b < s.heap.objs.size := Heap.lt_size q
    rw [Heap.get?_push_ne _ _ _ (by rw [hsz]; exact Nat.ne_of_lt (Nat.lt_succ_of_lt hlt)), Heap.get?_update_ne _ _ _ _ (Nat.ne_of_lt hlt), Heap.get?_push_ne _ _ _ (Nat.ne_of_lt hlt)]
    exact q
  have hL : L < s.heap.objs.size := F.ns.lt
  have F1 := F.keeps keep
  have N1 := N.grown keep
  have haL : s.heap.objs.size + 1 ≠ L := Nat.ne_of_gt (Nat.lt_succ_of_lt hL)
  have ha0 : h₀.get? (s.heap.objs.size + 1) = none := Heap.get?_none_of_le (Nat.le_trans F.above (Nat.le_succ_of_le (Nat.le_of_lt hL)))
  have hna : ∀ p ∈ news, p.1 ≠ s.heap.objs.size + 1 := fun p hp => Nat.ne_of_lt (Nat.lt_succ_of_lt (Heap.lt_size (N p hp).1))
  show wpAny _ _ _ _ _ { s with heap := ((s.heap.push (seqObj "list" #[] 0)).update s.heap.objs.size (Obj.mapSeq (· ++ [v].toArray))).push (seqObj "list" [v].toArray 0) }
  rw [hsz]
  refine wpAny_bind (wpAny_holding (wpAny_call_entry slot_list_sort ⟨_, hoL, rfl⟩ entry_list_sort ?body (args_list_sort _)))
  case body =>
    refine sort_one (s := { s with heap := ((s.heap.push (seqObj "list" #[] 0)).update s.heap.objs.size (Obj.mapSeq (· ++ [v].toArray))).push (seqObj "list" [v].toArray 0) }) hoL (Nat.lt_succ_self 1) ⟨_, rfl, wpAny_pure ⟨_, rfl, ?_⟩⟩
    have hout : (pairsOf [v]).map (·.2) = #[v] := by simp [pairsOf]
    rw [hout]
    unfold sortedHeap
    generalize hH : ((s.heap.push (seqObj "list" #[] 0)).update s.heap.objs.size (Obj.mapSeq (· ++ [v].toArray))).push (seqObj "list" [v].toArray 0) = H at *
    generalize hd : s.heap.objs.size + 1 = d at *
    have s1 := Heap.SameBut.update H d (Obj.mapSeq fun _ => (#[] : Array Value))
    obtain ⟨e1, ho1⟩ : ∃ e1, (H.update d (Obj.mapSeq fun _ => (#[] : Array Value))).get? d = some (seqObj "list" #[] e1) := ⟨_, get?_update_seq hoL fun _ => #[]⟩
    have F3 : Fr h₀ L (((H.update d (Obj.mapSeq fun _ => (#[] : Array Value))).push (seqObj "tuple" [v].toArray 0)).push (seqObj "list" #[] 0)) m := ((kas_fr F1 s1 haL ha0).push _).push _
    have N3 : News h₀ L (((H.update d (Obj.mapSeq fun _ => (#[] : Array Value))).push (seqObj "tuple" [v].toArray 0)).push (seqObj "list" #[] 0)) news :=
      (kas_news N1 s1 hna).grown fun b x e => Heap.get?_push_of_some _ (Heap.get?_push_of_some _ e)
    have ho3 : (((H.update d (Obj.mapSeq fun _ => (#[] : Array Value))).push (seqObj "tuple" [v].toArray 0)).push (seqObj "list" #[] 0)).get? d = some (seqObj "list" #[] e1) := Heap.get?_push_of_some _ (Heap.get?_push_of_some _ ho1)
    have s4 := Heap.SameBut.update (((H.update d (Obj.mapSeq fun _ => (#[] : Array Value))).push (seqObj "tuple" [v].toArray 0)).push (seqObj "list" #[] 0)) d (Obj.mapSeq fun _ => (#[v] : Array Value))
    obtain ⟨c, hc⟩ : ∃ c, ((((H.update d (Obj.mapSeq fun _ => (#[] : Array Value))).push (seqObj "tuple" [v].toArray 0)).push (seqObj "list" #[] 0)).update d (Obj.mapSeq fun _ => (#[v] : Array Value))).get? d = some (seqObj "list" #[v] c) := ⟨_, get?_update_seq ho3 fun _ => #[v]⟩
    refine h d c _ (kas_fr F3 s4 haL ha0) (fun p hp => ?_) (fun q hq => ?_)
    · rcases List.mem_cons.mp hp with rfl | hp
      · exact ⟨hc, haL, ha0⟩
      · exact kas_news N3 s4 hna p hp
    · rw [← hd]; exact Nat.lt_succ_of_lt (Heap.lt_size (N q hq).1)
end
end

local macro_rules | `(tactic| passes_own) => `(tactic| assumption)
local macro_rules | `(tactic| k_room) => `(tactic| ((try simp only [depth_mark, depth_under_make, depth_under_kw, depth_in1, depth_deeper, depth_caller]); (try dsimp only); (show (_ : Nat) < 1000); omega))
local macro_rules | `(tactic| units_room) => `(tactic| ((try simp only [units_in1, units_deeper, Around.mark_units, units_caller]); (try dsimp only); (show (_ : Nat) < 9900); omega))
local macro_rules | `(tactic| k_units) => `(tactic| ((try simp only [units_in1, units_deeper, Around.mark_units, units_caller]); (try dsimp only); first | (show (_ : Nat) < 9900; omega) | (show (_ : Nat) ≤ 9900; omega)))
section
set_option maxHeartbeats 8000000
local macro_rules | `(tactic| walk_at "no such step") => `(tactic| fail "no such step")
local macro_rules | `(tactic| walk_at "eval ListComp Tuple cons") => `(tactic| (k_here; refine Paused.go ?_))
local macro_rules | `(tactic| walk_at "exec For Tuple Call cons nil") => `(tactic| (k_here; (rename Fr _ _ _ _ => lF'); (with_unfolding_all refine' For_turns lF' ?_); k_whole))
local macro_rules | `(tactic| walk_at "call builtin:sorted") => `(tactic| (k_here; (with_reducible show wpAny _ _ (call (Value.builtin _) [Value.ref _]) _ _ _); (refine' sorted_one (by k_asm) (by k_asm) (News.isList (by k_asm) (by k_mem)) ?_; k_whole); intro D' c' h' F' N' l1; (try k_lt l1)))
local macro_rules | `(tactic| walk_at "SrcS") => `(tactic| (k_here; refine Paused.go ?_))
/-- a set of one span of one sign -/
inductive CharAt (h : Heap) (x : Addr) (n : Int) : Prop
  | mk (dx sp tp : Addr) (c : Nat) (t1 u1 u2 : Tok) (h1 : Int)
    (I : InstAt h x (instObj 339 dx) 339 (some (dictOf [⟨h1, .str (Str.ofString "spans") t1, .ref sp⟩] c))) (S : IsTup h sp #[.ref tp]) (P : IsTup h tp #[.int n u1, .int n u2]) : CharAt h x n
theorem CharAt.keeps {h h' : Heap} {x : Addr} {n : Int} (D : CharAt h x n) (k : h.StaysIn h') : CharAt h' x n :=
  let ⟨dx, sp, tp, c, t1, u1, u2, h1, I, S, P⟩ := D
  ⟨dx, sp, tp, c, t1, u1, u2, h1, instAt_keeps I k, stays_tup k S, stays_tup k P⟩
theorem of_ok {w : World} {p : Program} {loose : List Str} {mean : ExcName → Option Value} {mg mb : Str → Option Value} {dp un : Nat} {gd : Option (List Code)} {env : Env} {outer : List Env}
    {A₀ : Around} {base h₀ : Heap} {L : Addr} {m : Str → Option Value} {s : Shared} {Q E : Value → Shared → Prop} {tx : Str} {t0 : Tok} {n : Int}
    (B : Below A₀ base outer h₀) (F : Fr h₀ L s.heap m) (X : (hd.heap_1 w.params).In h₀) (T : Top p loose mean mg mb h₀) (hf : env.frame = some L) (hke : env.scope.kind = .function) (hdp : dp < 700) (hun : un < 3000) (hsz : tx.cps.size = 1) (hn : ((tx.cps.getD 0 0 : Nat) : Int) = n) (n0 : 0 ≤ n) (n1 : n ≤ 126)
    (ret : ∀ h' tk' x, s.heap.StaysIn h' → NewIn s.heap h' (fun k => CharAt k x n) → Q (.ref x) { s with heap := h', toks := tk' }) :
    wpAny (model Challenge.rw_ok0116_01.row.prog w) { handled := none, depth := dp, frames := some (env :: outer), guards := gd, units := un } (call (.ref 222) [.str tx t0]) Q E s := by
  w_top off
  revert X; k_fill; intro X
  refine wpAny_call ?_
  refine' code_defG (news := []) B F X News.nil T rfl hf hke ?k6 ?k7 ?k8 ?k9 ?kB ?_ ?c2 ?c3 ?c4 ?c5
  (case k6 => k_is)
  (case k7 => k_is)
  (case k8 => (show dp < recursionLimit; unfold recursionLimit; omega))
  (case k9 => exact BindsTo.of_eq rfl)
  (case c5 => decide)
  (case kB => exact locs rfl)
  (case c2 => exact rfl)
  (case c3 => exact rfl)
  (case c4 => exact rfl)
  intro g L' h₁ FG F' N' B' X' T' GS
  have k0 : s.heap.StaysIn g := fun b o e => GS b o e (by simp)
  try k_fold
  refine' wp_gen2 ?hE9 ?_
  (case hE9 => passes_own)
  intro Q9 E9 hQ9 hE9 hP9
  k_steps
  refine Paused.mk ?_
  refine ListComp_S (F₀ := by k_asm) (by with_unfolding_all rfl) (by decide) (by rfl) (by decide) (by rfl) (tx := tx) (by rw [hsz]; decide) ?_
  k_steps
  refine Paused.mk ?_
  refine ⟨_, [], rfl, rfl, by assumption, News.nil, ?_⟩
  rintro _ ⟨g9, rfl⟩
  rw [hsz]
  change LCg.CompRest _ _ _ _ _ _ _ _ _ _ _ _ _ _ _ 1 0 [] []
  refine LCg.CompRest.succ ?_
  intro v I oI C oC D m₂ h tk E' hv hC hx F₁ N₁ off ne
  obtain ⟨c, u, hc, rfl⟩ := hv
  obtain rfl : ((c : Nat) : Int) = n := by rw [← hn, Array.getD_eq_getD_getElem?, hc]; rfl
  have i1 : (if (0 : Int) > (c : Int) then (0 : Int) else (c : Int)) = (c : Int) := if_neg (by omega)
  have i2 : (if (127 : Int) < (c : Int) then (127 : Int) else (c : Int)) = (c : Int) := if_neg (by omega)
  k_steps
  subst hQ9
  (try dsimp only)
  k_steps
  rename Fr g _ _ _ => F8
  rename News g _ _ _ => N8
  rw [i1, i2] at N8
  exact ret _ _ _ (fun b o e => F8.keep b o (k0 b o e)) (newIn_of k0 N8 fun k hk => ⟨_, _, _, _, _, _, _, _, has_inst hk (.head _) (.tail _ (.head _)), has_isTup hk (.tail _ (.tail _ (.head _))), has_isTup hk (.tail _ (.tail _ (.tail _ (.head _))))⟩)
end

section
set_option maxHeartbeats 200000
section
variable {prog : Program} {w : World} {A A₀ : Around} {E : Value → Shared → Prop} {s : Shared} {K : Frag} {C L : Addr} {h₀ base : Heap} {m mg mb : Str → Option Value} {p : Program} {loose : List Str} {mean : ExcName → Option Value} {Q : Value → Shared → Prop}
/-- a class is called: where the object lies among the others -/
theorem call_clsX {pos : List Value} {kw : List (Str × Value)} {fI : Addr} (F : Fr h₀ L s.heap m) (X₀ : K.In h₀) (hm : makesIn K C = true) (hi : findIn K (.ref C) "__init__" = some (some (.ref fI))) (hf : isFn K (.ref fI) = true)
    (h : ∀ x dx h', Fr h₀ L h' m → News h₀ L h' [(x, instObj C dx), (dx, dictOf [] 0)] → (∀ b o, s.heap.get? b = some o → @Ne Nat b x ∧ @Ne Nat b dx ∧ h'.get? b = some o) → @LT.lt Nat _ dx x →
      codeAny (model prog w) (A.under (.builtin "type.__call__" ⟨.ref C :: pos, kw⟩)) (.call (.ref fI) ⟨.ref x :: pos, kw⟩) (InitBack x fun r s' => match r with | .ok (.ret v) => Q v s' | .ok _ => False | .error e => E e s') { s with heap := h' }) :
    wpAny (model prog w) A (call (.ref C) pos kw) Q E s := by
  refine wpAny_call ?_
  have X := X₀.keeps F.keep
  obtain ⟨hh, g, d, t, os⟩ := s
  refine make_core (makes_of X hm) (looks_findIn X hi) (fun self => bind_fn X self (beq_iff_eq.mp hf)) (.inl rfl) (h _ hh.objs.size _ ((F.push _).push _) ?_ (fun b o e => ?_) (Nat.lt_succ_self _))
  · have := ((News.nil (h₀ := h₀) (L := L) (h := hh)).push F emptyDict).push (F.push _) (instObj C hh.objs.size)
    rwa [Heap.size_push] at this
  · have hl := Heap.lt_size e
    exact ⟨Nat.ne_of_lt (Nat.lt_succ_of_lt hl), Nat.ne_of_lt hl, Heap.get?_push_of_some _ (Heap.get?_push_of_some _ e)⟩
theorem ground2 {h h' g : Heap} {x dx : Addr} {a b : Obj} (kp : ∀ b o, h.get? b = some o → @Ne Nat b x ∧ @Ne Nat b dx ∧ h'.get? b = some o) (GS : GSub h' g ([(x, a), (dx, b)].map (·.1))) : h.StaysIn g := fun c o e => by
  obtain ⟨h1, h2, h3⟩ := kp c o e
  refine GS c o h3 fun hm => ?_
  simp only [List.map_cons, List.map_nil, List.mem_cons, List.not_mem_nil, or_false] at hm
  rcases hm with hm | hm
  · exact h1 hm
  · exact h2 hm
end
section
variable {prog : Program} {w : World} {A : Around} {E : Value → Shared → Prop} {s : Shared} {env : Env} {h₀ : Heap} {target : PySem.Expr} {body : List Stmt} {Q : Flow → Shared → Prop}
/-- turns over a tuple of the base -/
theorem iter_tupB {ax : Addr} {vs : List Value} {m₀ : Str → Option Value} {news : List (Addr × Obj)}
    (hh : A.handled = none) (F : Fr h₀ env.locals s.heap m₀) (N : News h₀ env.locals s.heap news) (hb : IsTup h₀ ax vs.toArray) (hz : vs.length ≤ 24)
    (rest₀ : ∀ I : Addr, (∀ p ∈ news, p.1 < I) → ItemsRest prog w A E h₀ env target body Q s [(I, "tuple_iterator")] [] (vs.map .val) m₀ news) :
    wpAny (model prog w) A (pyIter (.ref ax)) (fun it s₂ => TurnsAt prog w A h₀ env target body Q E it s₂) E s := by
  obtain ⟨lo, e, c, n, d⟩ := hb
  refine iter_tupK (K := [(ax, lo)]) hh F N (fun a o h => ?_) (by simp) c d hz rest₀
  rw [List.lookup_cons] at h
  split at h
  · rename_i h1
    rw [← Option.some.inj h, eq_of_beq h1]; exact e
  · cases h
end
end

local macro_rules | `(tactic| k_inst) => `(tactic| exact instAt_keeps (by assumption) (Fr.keep (by assumption)))
section
set_option maxHeartbeats 8000000
local macro_rules | `(tactic| walk_at "call type:range") => `(tactic| (k_here; (rename Fr _ _ _ _ => F'); (rename News _ _ _ _ => N'); (with_unfolding_all refine range1_rows F' N' ?_; intro _ _ _ _ _ hR _ _ _); (with_unfolding_all change IsRange _ _ (0 : Int) (2 : Int) (1 : Int) _ _ _ at hR)))
local macro_rules | `(tactic| walk_at "exec For Tuple Attribute") => `(tactic| (k_here; (rename Fr _ _ _ _ => lF'); (with_unfolding_all refine' For_turns lF' ?_); k_whole))
local macro_rules | `(tactic| walk_at "pyIter ref") => `(tactic| (k_here; (with_reducible show wpAny _ _ (pyIter (Value.ref _)) (fun it s₂ => TurnsAt _ _ _ _ _ _ _ _ _ it s₂) _ _); (with_unfolding_all refine' iter_tupB (vs := [_]) ?h ?F ?N ?X ?z ?_; (case h => with_unfolding_all rfl); (case F => k_asm); (case N => k_asm); (case X => assumption); (case z => exact Nat.le_of_ble_eq_true rfl); k_whole); intro i' l1; (try k_lt l1)))
local macro_rules | `(tactic| walk_at "assign Tuple") => `(tactic| (k_here; (with_reducible show wpAny _ _ (assign (Expr.Tuple _ _ _) _ (Value.ref _)) _ _ _); k_dflt (refine' unpackN_ ?F ?N ?X ?k1 ?k2 ?k3 ?_; (case F => k_asm); (case N => k_asm); (case X => exact stays_tup (Fr.keep (by assumption)) (by assumption)); (case k1 => exact rfl); (case k2 => exact rfl); (case k3 => exact rfl)); intro h' F' N'; (try k_sweep)))
theorem classes_ok {w : World} {p : Program} {loose : List Str} {mean : ExcName → Option Value} {mg mb : Str → Option Value} {dp un : Nat} {gd : Option (List Code)} {env : Env} {outer : List Env}
    {A₀ : Around} {base h₀ : Heap} {L : Addr} {m : Str → Option Value} {s : Shared} {Q E : Value → Shared → Prop}
    (B : Below A₀ base outer h₀) (F : Fr h₀ L s.heap m) (X : (hd.heap_1 w.params).In h₀) (T : Top p loose mean mg mb h₀) (hf : env.frame = some L) (hke : env.scope.kind = .function) (hdp : dp < 700) (hun : un < 3000)
    {l x1 x2 : Addr} (hl : s.heap.IsList l #[.ref x1, .ref x2]) (c1 : CharAt s.heap x1 97) (c2 : CharAt s.heap x2 98)
    (ret : ∀ h' tk' x, s.heap.StaysIn h' → Q (.ref x) { s with heap := h', toks := tk' }) :
    wpAny (model Challenge.rw_ok0116_01.row.prog w) { handled := none, depth := dp, frames := some (env :: outer), guards := gd, units := un } (call (.ref 415) [.ref l]) Q E s := by
  w_top off
  revert X; k_fill; intro X
  refine' call_clsX F X ?k4 ?k5 ?k6 ?_
  (case k4 => k_is)
  (case k5 => k_is)
  (case k6 => k_is)
  intro x dx h1 F1 N1 kp lt
  refine' code_defG B F1 X N1 T rfl hf hke ?k6 ?k7 ?k8 ?k9 ?kB ?_ ?c2 ?c3 ?c4 ?c5
  (case k6 => k_is)
  (case k7 => k_is)
  (case k8 => k_room)
  (case k9 => exact BindsTo.of_eq rfl)
  (case c5 => decide)
  (case kB => exact locs rfl)
  (case c2 => exact rfl)
  (case c3 => exact rfl)
  (case c4 => exact rfl)
  intro g L' h₁ FG F' N' B' X' T' GS
  have k0 : s.heap.StaysIn g := ground2 kp GS
  have hl' : g.IsList l #[.ref x1, .ref x2] := stays_list k0 hl
  obtain ⟨d1, s1, p1, n1, t1, u1, v1, q1, I1, S1, P1⟩ := c1.keeps k0
  obtain ⟨d2, s2, p2, n2, t2, u2, v2, q2, I2, S2, P2⟩ := c2.keeps k0
  try k_fold
  refine' wp_gen2 ?hE9 ?_
  (case hE9 => passes_own)
  intro Q9 E9 hQ9 hE9 hP9
  k_steps
  subst hQ9
  (try dsimp only)
  k_steps
  · rename Fr g _ _ _ => F8
    exact ret _ _ _ (fun b o e => F8.keep b o (k0 b o e))
  · rename (¬ _ = _) => hne
    exact absurd (by decide +kernel) hne
end

section
set_option maxHeartbeats 8000000
/-- an empty set -/
def IsSet0 (h : Heap) (a : Addr) : Prop := ∃ o ep t, h.get? a = some o ∧ o.cls = .type "set" ∧ o.data = .set #[] ep t ∧ t.fits 0 = true
def IsSetIt0 (h : Heap) (it a : Addr) : Prop := ∃ o ep, h.get? it = some o ∧ o.cls = .type "set_iterator" ∧ o.data = .fields #[.int 0 0, .int 0 0, .ref a, .int 0 0, .int (ep : Nat) 0] ∧ ∃ os t, h.get? a = some os ∧ os.cls = .type "set" ∧ os.data = .set #[] ep t ∧ t.fits 0 = true
theorem entry_set_iter : entryFor table "set.__iter__" = some Builtin.«frozenset.__iter__» :=
  entryFor_alias (id' := "frozenset.__iter__") (by kernel_rfl) rfl (by decide +kernel) (by kernel_rfl)
theorem entry_setit_next : entryFor table "set_iterator.__next__" = some Builtin.«set_iterator.__next__» := entryFor_of_tree (by kernel_rfl)
theorem slot_setit_next : Slot "set_iterator" "__next__" "set_iterator.__next__" :=
  .of (owner := "set_iterator") (n := "__next__") (by rw [typeLookup_type, builtinLookup_eq_fast]; kernel_rfl) (by decide +kernel) (by decide +kernel) (by decide +kernel)
    (by first | exact .inl (by decide +kernel) | exact .inr (by decide +kernel)) (by rw [isSubtype_type]; kernel_rfl)
theorem args_setit_next {a : Value} : argsOk "set_iterator.__next__" ⟨[a], []⟩ := by unfold argsOk; kernel_rfl
theorem slot_setit_iter : Slot "set_iterator" "__iter__" "set_iterator.__iter__" :=
  .of (owner := "set_iterator") (n := "__iter__") (by rw [typeLookup_type, builtinLookup_eq_fast]; kernel_rfl) (by decide +kernel) (by decide +kernel) (by decide +kernel)
    (by first | exact .inl (by decide +kernel) | exact .inr (by decide +kernel)) (by rw [isSubtype_type]; kernel_rfl)
theorem entry_setit_iter : entryFor table "set_iterator.__iter__" = some Builtin.«dict_keyiterator.__iter__» :=
  entryFor_alias (id' := "dict_keyiterator.__iter__") (by kernel_rfl) rfl (by decide +kernel) (by kernel_rfl)
theorem args_setit_iter {a : Value} : argsOk "set_iterator.__iter__" ⟨[a], []⟩ := by unfold argsOk; kernel_rfl
theorem slot_set_len : Slot "set" "__len__" "set.__len__" :=
  .of (owner := "set") (n := "__len__") (by rw [typeLookup_type, builtinLookup_eq_fast]; kernel_rfl) (by decide +kernel) (by decide +kernel) (by decide +kernel)
    (by first | exact .inl (by decide +kernel) | exact .inr (by decide +kernel)) (by rw [isSubtype_type]; kernel_rfl)
section
variable {prog : Program} {w : World} {A : Around} {E : Value → Shared → Prop} {s : Shared}
theorem IsSet0.typeIs {a : Addr} (x : IsSet0 s.heap a) : s.TypeIs (.ref a) "set" := let ⟨o, _, _, e, c, _⟩ := x; ⟨o, e, c⟩
theorem IsSetIt0.typeIs {it a : Addr} (x : IsSetIt0 s.heap it a) : s.TypeIs (.ref it) "set_iterator" := let ⟨o, _, e, c, _⟩ := x; ⟨o, e, c⟩
theorem drawn0 {a : Addr} {Q : Bool → Shared → Prop} (hs : IsSet0 s.heap a) (hQ : Q false s) : wpAny (model prog w) A (setDrawn a) Q E s := by
  obtain ⟨o, ep, t, ho, hc, hd, hf⟩ := id hs
  unfold setDrawn setsByText
  refine wpAny_bind (wpAny_setState_of ho hd hf ?_)
  refine wpAny_bind (wpAny_bind (wpAny_askSetting (wpAny_pure ?_)))
  refine wpAny_pure ?_
  have e : (!(model prog w).w.params.followText "set-order" && (!t.plain && decide ((#[] : Array (Int × Value)).size > 1))) = false := by simp
  exact e.symm ▸ hQ
theorem pyIter_set0 {a : Addr} {Q : Value → Shared → Prop} (hs : IsSet0 s.heap a)
    {o : Obj} {ep : Nat} {t : SetTable} (ho : s.heap.get? a = some o) (hd : o.data = .set #[] ep t) (hf : t.fits 0 = true)
    (hQ : Q (.ref s.heap.objs.size) { s with heap := s.heap.push { cls := .type "set_iterator", data := .fields #[.int 0 0, .int 0 0, .ref a, .int 0 0, .int ep 0] } }) : wpAny (model prog w) A (pyIter (.ref a)) Q E s := by
  refine wpAny_pyIter_slot hs.typeIs F.slot_set_iter (wpAny_call_entry F.slot_set_iter hs.typeIs entry_set_iter ?_ (F.args_set_iter_1 _))
  unfold Builtin.«frozenset.__iter__»
  show wpAny _ _ (Builtin.Frozenset.slot0 "__iter__" ⟨[.ref a], []⟩ >>= _) _ _ s
  refine wpAny_bind ?_
  show wpAny _ _ (pure a) _ _ s
  refine wpAny_pure ?_
  unfold Builtin.Frozenset.sizeOf
  refine wpAny_bind (wpAny_bind (wpAny_setEntries_of ho hd hf (wpAny_pure ?_)))
  refine wpAny_bind (drawn0 hs ?_)
  rw [if_neg (by decide)]
  refine wpAny_bind (wpAny_pure ?_)
  refine wpAny_bind (wpAny_setEpoch_of ho hd hf ?_)
  simp only [newFields]
  refine wpAny_bind (wpAny_newObj_type (wpAny_pure ⟨_, rfl, "set_iterator", _, ⟨_, Heap.get?_push_size _ rfl, rfl⟩, slot_setit_next.lookup, ?_⟩))
  exact hQ
theorem setNext0 {a : Addr} {o : Obj} {ep : Nat} {t : SetTable} {Q : Option (Value × Nat) → Shared → Prop} (ho : s.heap.get? a = some o) (hd : o.data = .set #[] ep t) (hf : t.fits 0 = true) (hQ : Q none s) : wpAny (model prog w) A (setNext a 0 0 ep) Q E s := by
  unfold setNext
  refine wpAny_bind (wpAny_setState_of ho hd hf ?_)
  unfold setsByText
  refine wpAny_bind (wpAny_bind (wpAny_askSetting (wpAny_pure ?_)))
  refine wpAny_ite_split (fun _ => ?_) (fun _ => ?_)
  · rw [if_neg (by simp)]
    refine wpAny_bind ?_
    unfold setWalk
    refine wpAny_bind (wpAny_setState_of ho hd hf ?_)
    unfold setsByText
    refine wpAny_bind (wpAny_bind (wpAny_askSetting (wpAny_pure ?_)))
    have e : ∀ next : Nat → Nat, (pickOrder next (#[] : Array (Int × Value)))[0]? = none := fun _ => rfl
    refine wpAny_ite_split (fun _ => ?_) (fun _ => ?_)
    · refine wpAny_bind (wpAny_askSetting (wpAny_pure ?_))
      dsimp only
      rw [e]
      exact wpAny_pure hQ
    · rw [if_neg (by
        show ¬ ((!t.plain && decide ((#[] : Array (Int × Value)).size > 1)) = true)
        simp)]
      show wpAny _ _ ((if (!t.led && decide ((#[] : Array (Int × Value)).size > 1)) = true then unsupported "set:maker-not-led" else pure ()) >>= _) _ _ _
      rw [if_neg (by simp)]
      refine wpAny_bind (wpAny_pure (wpAny_pure ?_))
      exact wpAny_pure hQ
  · rw [if_neg (by
      show ¬ ((!t.plain && decide ((#[] : Array (Int × Value)).size > 1)) = true)
      simp)]
    show wpAny _ _ ((if (!t.led && !(#[] : Array (Int × Value)).isEmpty) = true then unsupported "set:maker-not-led" else pure ()) >>= _) _ _ _
    rw [if_neg (by simp)]
    refine wpAny_bind (wpAny_pure (wpAny_pure ?_))
    simpa using hQ
theorem mroOf_setit : mroOf (.type "set_iterator") = pure [.type "set_iterator", .type "object"] := by rw [mroOf_type]; kernel_rfl
theorem pyIter_setit0 {it a : Addr} {Q : Value → Shared → Prop} (hit : IsSetIt0 s.heap it a) (h : Q (.ref it) s) : wpAny (model prog w) A (pyIter (.ref it)) Q E s := by
  refine wpAny_pyIter_slot hit.typeIs slot_setit_iter (wpAny_call_entry slot_setit_iter hit.typeIs entry_setit_iter ?_ args_setit_iter)
  show wpAny _ _ (ret (.ref it)) _ _ s
  exact wpAny_pure ⟨_, rfl, "set_iterator", _, hit.typeIs, slot_setit_next.lookup, h⟩
theorem pyNext_set0 {it a : Addr} {Q : Option Value → Shared → Prop} (hh : A.handled = none) (hit : IsSetIt0 s.heap it a) (hQ : ∀ h', Heap.ExtBut it s.heap h' → Q none { s with heap := h' }) : wpAny (model prog w) A (pyNext (.ref it)) Q E s := by
  obtain ⟨o, ep, ho, hc, hd, os, t, hos, hcs, hds, hf⟩ := id hit
  unfold pyNext
  refine wpAny_bind (wpAny_attempt (wpAny_callSpecial?_slot (name := Str.ofString "__next__") hit.typeIs slot_setit_next
    (wpAny_call_entry slot_setit_next hit.typeIs entry_setit_next ?_ args_setit_next)))
  unfold Builtin.«set_iterator.__next__»
  refine wpAny_bind (wpAny_pure ?_)
  refine wpAny_bind (wpAny_fieldsOf ho hd ?_)
  dsimp only
  refine wpAny_bind (wpAny_setEntries_of hos hds hf ?_)
  rw [if_neg (by simp)]
  refine wpAny_bind ?_
  show wpAny _ _ (setNext a 0 0 ((ep : Int)).toNat) _ _ s
  rw [Int.toNat_natCast]
  refine setNext0 hos hds hf ?_
  dsimp only
  show wpAny _ _ (setField (.ref it) 2 .none >>= _) _ _ s
  refine wpAny_bind (wpAny_setField ho hd (by simp) ?_)
  show wpAny _ _ (newExc (.type "StopIteration") [] >>= _) _ _ _
  refine wpAny_bind ?_
  simp only [newExc, newTuple]
  refine wpAny_bind (wpAny_newObj_type ?_ (by size_fits))
  refine wpAny_bind (m := firstArgMember _ _) (wpAny_of_eq (a := Value.none) (by first | rfl | (simp only [firstArgMember]; rfl)) ?_)
  refine wpAny_newObj_type ?_ (by size_fits)
  simp only [raiseNew]
  refine wpAny_bind (wpAny_handled ?_)
  rw [show A.in1.handled = none from hh]
  refine wpAny_bind (wpAny_pure (wpAny_throw ?_))
  refine wpAny_bind (wpAny_isInstance (T := "StopIteration") (b := true) ⟨_, Heap.get?_push_size _ rfl, rfl⟩ isSubtype_stop ?_)
  exact wpAny_pure (hQ _ (((Heap.SameBut.update ..).extBut.push _).push _))
theorem hint_set0 {r : Addr} {Q : Bool → Shared → Prop} (hT : s.TypeIs (.ref r) "set") (h : Q false s) : wpAny (model prog w) A (Builtin.List.listLengthHint (.ref r)) Q E s := by
  unfold Builtin.List.listLengthHint
  refine wpAny_bind (wpAny_specialOf hT slot_set_len.lookup ?_)
  generalize hid : ("set.__len__" : String) = id0
  wp_delta
  rw [show splitId id0 = some ("set", "__len__") from by subst hid; decide +kernel]
  subst hid
  refine wpAny_bind (wpAny_isInstance (T := "set") (b := true) hT (by rw [isSubtype_type]; kernel_rfl) ?_)
  refine wpAny_ite_split (fun hab => absurd hab (by decide)) (fun _ => ?_)
  refine wpAny_ite_split (fun _ => ?_) (fun hab => absurd (by decide +kernel) hab)
  refine wpAny_bind (wpAny_typeOf hT ?_)
  exact wpAny_pure h
theorem IsSet0.at {h h' : Heap} {a : Addr} (x : IsSet0 h a) (e : ∀ o, h.get? a = some o → h'.get? a = some o) : IsSet0 h' a := let ⟨o, ep, t, ho, r⟩ := x; ⟨o, ep, t, e _ ho, r⟩
theorem IsSetIt0.at {h h' : Heap} {it a : Addr} (x : IsSetIt0 h it a) (e : ∀ o, h.get? it = some o → h'.get? it = some o) (e2 : ∀ o, h.get? a = some o → h'.get? a = some o) : IsSetIt0 h' it a := let ⟨o, ep, ho, hc, hd, os, t, hos, r⟩ := x; ⟨o, ep, e _ ho, hc, hd, os, t, e2 _ hos, r⟩
theorem walks_set0 (hh : A.handled = none) (I d : Addr) : Walks prog w A I [I, d] [I] 0 (fun _ _ => False) (fun i h => IsSetIt0 h I d) where
  sub := fun b hb => by simp at hb; simp [hb]
  frame := fun _ _ _ st hk => st.at (fun o e => hk I (by simp) o e) (fun o e => hk d (by simp) o e)
  item := fun i s Q E hi => absurd hi (Nat.not_lt_zero _)
  done := fun s Q E st hQ => pyNext_set0 hh st fun h' he' => hQ h' s.toks fun b o hb e => he' b o (fun h => hb (by simp [h])) e
  self := fun _ _ _ _ st hQ => pyIter_setit0 st hQ
theorem src_set0 {r : Addr} : KdlSrc prog w "set" r r 0 (fun _ _ => False) (fun h => IsSet0 h r) where
  type := fun _ hm => hm.typeIs
  there := fun _ hm => let ⟨_, _, _, ho, _⟩ := hm; ⟨Heap.lt_size ho, Heap.lt_size ho⟩
  keep := fun _ _ hm hk => hm.at fun o e => hk r (.inl rfl) o e
  notList := by decide
  notTuple := by decide
  hint := fun _ _ _ _ hm hq => hint_set0 hm.typeIs hq
  iter := fun A s hh hm => by
    obtain ⟨o, ep, t, ho, hc, hd, hf⟩ := id hm
    exact ⟨_, _, fun E Q hq => pyIter_set0 hm ho hd hf hq, walks_set0 hh _ _, ⟨_, ep, Heap.get?_push_size _ rfl, rfl, rfl, o, t, Heap.get?_push_of_some _ ho, hc, hd, hf⟩⟩
theorem sorted_set0 {h₀ : Heap} {L S : Addr} {m : Str → Option Value} {news : List (Addr × Obj)} {Q : Value → Shared → Prop} (hh : A.handled = none) (F : Fr h₀ L s.heap m) (N : News h₀ L s.heap news) (hs : IsSet0 s.heap S)
    (h : ∀ D c h' tk, Fr h₀ L h' m → News h₀ L h' ((D, listOf #[] c) :: news) → (∀ q ∈ news, q.1 < D) → Q (.ref D) { s with heap := h', toks := tk }) :
    wpAny (model prog w) A (call (.builtin "sorted") [.ref S]) Q E s := by
  refine kdu_sorted src_set0 hh F N hs (by rw [sizeLine_eq]; omega) fun D h' tk vs F' N' l1 hl hv => ?_
  obtain rfl : vs = [] := List.length_eq_zero_iff.mp hl
  refine wpAny_call_entry slot_list_sort ⟨_, (N' _ (.head _)).1, rfl⟩ entry_list_sort ?_ (args_list_sort _)
  have hoL := (N' _ (.head _)).1
  have haL := (N' _ (.head _)).2.1
  have ha0 := (N' _ (.head _)).2.2
  have hna : ∀ q ∈ news, q.1 ≠ D := fun q hq => Nat.ne_of_lt (l1 q hq)
  have N1 : News h₀ L h' news := fun q hq => N' q (.tail _ hq)
  refine sort_one (s := { s with heap := h', toks := tk }) (vs := []) hoL (Nat.zero_lt_succ 1) ⟨_, rfl, ?_⟩
  have hout : (pairsOf []).map (·.2) = #[] := by simp [pairsOf]
  rw [hout]
  unfold sortedHeap
  have s1 := Heap.SameBut.update h' D (Obj.mapSeq fun _ => (#[] : Array Value))
  obtain ⟨e1, ho1⟩ : ∃ e1, (h'.update D (Obj.mapSeq fun _ => (#[] : Array Value))).get? D = some (seqObj "list" #[] e1) := ⟨_, get?_update_seq hoL fun _ => #[]⟩
  have F3 : Fr h₀ L (((h'.update D (Obj.mapSeq fun _ => (#[] : Array Value))).push (seqObj "tuple" [].toArray 0)).push (seqObj "list" #[] 0)) m := ((kas_fr F' s1 haL ha0).push _).push _
  have N3 : News h₀ L (((h'.update D (Obj.mapSeq fun _ => (#[] : Array Value))).push (seqObj "tuple" [].toArray 0)).push (seqObj "list" #[] 0)) news :=
    (kas_news N1 s1 hna).grown fun b x e => Heap.get?_push_of_some _ (Heap.get?_push_of_some _ e)
  have ho3 : (((h'.update D (Obj.mapSeq fun _ => (#[] : Array Value))).push (seqObj "tuple" [].toArray 0)).push (seqObj "list" #[] 0)).get? D = some (seqObj "list" #[] e1) := Heap.get?_push_of_some _ (Heap.get?_push_of_some _ ho1)
  have s4 := Heap.SameBut.update (((h'.update D (Obj.mapSeq fun _ => (#[] : Array Value))).push (seqObj "tuple" [].toArray 0)).push (seqObj "list" #[] 0)) D (Obj.mapSeq fun _ => (#[] : Array Value))
  obtain ⟨c, hc⟩ : ∃ c, ((((h'.update D (Obj.mapSeq fun _ => (#[] : Array Value))).push (seqObj "tuple" [].toArray 0)).push (seqObj "list" #[] 0)).update D (Obj.mapSeq fun _ => (#[] : Array Value))).get? D = some (seqObj "list" #[] c) := ⟨_, get?_update_seq ho3 fun _ => #[]⟩
  refine h D c _ tk (kas_fr F3 s4 haL ha0) (fun p hp => ?_) l1
  rcases List.mem_cons.mp hp with rfl | hp
  · exact ⟨hc, haL, ha0⟩
  · exact kas_news N3 s4 hna p hp
theorem sub_vals_set : isSubtype (.type "dict_values") (.type "set") = pure false := by rw [isSubtype_type]; kernel_rfl
theorem sub_vals_frozenset : isSubtype (.type "dict_values") (.type "frozenset") = pure false := by rw [isSubtype_type]; kernel_rfl
theorem call_set_vals0 {d r : Addr} {ep : Nat} {Q : Value → Shared → Prop} (hh : A.handled = none)
    (hv : s.heap.IsValuesView r d) (hd : s.heap.DictAt (intKind prog w) d ([] : List (Int × Value)) ep)
    (h : ∀ (h' : Heap) (tk : Nat), IsSet0 h' s.heap.objs.size → (∀ b o, b < s.heap.objs.size → s.heap.get? b = some o → h'.get? b = some o) → Q (.ref s.heap.objs.size) { s with heap := h', toks := tk }) :
    wpAny (model prog w) A (call (.type "set") [.ref r]) Q E s := by
  obtain ⟨c, tl, hmro⟩ := PySem.F.called_set.mro
  have hmade := PySem.F.called_set.made
  have hsub := PySem.F.called_set.sub
  refine wpAny_call (codeAny_of_tree ?_)
  show wpAny _ _ (callAny (.type "set") _) _ _ _
  refine wpAny_pure ⟨Code.quiet_builtin _ (by decide +kernel), codeAny_builtin PySem.F.entry_type_call ?_⟩
  rw [Around.under_plain (weight_type_call_type "set" [.ref r] []) rfl]
  have h1 := PySem.F.called_set.notType
  have h2 := PySem.F.called_set.canCreate
  have hct := PySem.F.typeCall_set_1 (.ref r)
  repeat (any_goals (first | assumption | wp_step))
  refine codeAny_mono (code_set_new_1 (.ref r) (E := E) (Q₁ := fun obj s₁ => ∃ led : Bool, obj = .ref s.heap.objs.size ∧ s₁ = { s with heap := s.heap.push { cls := .type "set", dict := none, data := .set #[] 0 (.fresh 0 0 led) } }) fun led => ⟨led, rfl, rfl⟩) fun q s₁ hr => ?_
  cases q with
  | error e => exact hr
  | ok fl =>
    cases fl with
    | ret obj =>
      obtain ⟨led, rfl, rfl⟩ := hr
      have hS : (s.heap.push { cls := .type "set", dict := none, data := .set #[] 0 (.fresh 0 0 led) }).get? s.heap.objs.size = some { cls := .type "set", dict := none, data := .set #[] 0 (.fresh 0 0 led) } := Heap.get?_push_size _ rfl
      have hT : Shared.TypeIs { s with heap := s.heap.push { cls := .type "set", dict := none, data := .set #[] 0 (.fresh 0 0 led) } } (.ref s.heap.objs.size) "set" := ⟨_, hS, rfl⟩
      have hli := PySem.F.called_set.init.lookup
      have hbi := PySem.F.called_set.init.bind (.ref s.heap.objs.size)
      repeat (any_goals (first | assumption | wp_step))
      refine codeAny_mono (codeAny_call_builtin (R := wants (fun q s₂ => q = .none ∧ ∃ h' tk, s₂ = { s with heap := h', toks := tk } ∧
          IsSet0 h' s.heap.objs.size ∧ (∀ b o, b < s.heap.objs.size → s.heap.get? b = some o → h'.get? b = some o)) E) PySem.F.called_set.init.plain PySem.F.entry_set_init (check_set_init_1 hT ?_)) fun r₂ s₂ hr₂ => ?_
      · have hv1 : (s.heap.push { cls := .type "set", dict := none, data := .set #[] 0 (.fresh 0 0 led) }).IsValuesView r d := let ⟨o, ho, x⟩ := hv; ⟨o, Heap.get?_push_of_some _ ho, x⟩
        have hd1 : (s.heap.push { cls := .type "set", dict := none, data := .set #[] 0 (.fresh 0 0 led) }).DictAt (intKind prog w) d ([] : List (Int × Value)) ep := hd.push _
        have hsls := sub_vals_set
        have hslf := sub_vals_frozenset
        have hne : (Value.type "dict_values" == Value.type "dict") = false := by decide
        have hTr : Shared.TypeIs { s with heap := s.heap.push { cls := .type "set", dict := none, data := .set #[] 0 (.fresh 0 0 led) } } (.ref r) "dict_values" := let ⟨o, ho, c, _⟩ := hv1; ⟨o, ho, c⟩
        unfold Builtin.«set.__init__» noKeywords Builtin.Frozenset.updateFrom
        generalize hPI : pyIter = PI
        wp_walk
        subst hPI
        refine wpAny_pyIter_values hv1 hd1 ?_
        refine wpAny_bind (wpAny_runValue ?_)
        have hh3 : A.in1.in1.in1.handled = none := by simp [hh]
        have hlt : d < (s.heap.push { cls := .type "set", dict := none, data := .set #[] 0 (.fresh 0 0 led) }).objs.size := hd1.lt_size
        refine codeAny_builtin PyProof.Rows.F.entry_set_update_loop ?_
        rw [Around.under_plainId PyProof.Rows.F.plain_set_update_loop _]
        show wpAny _ _ (pyNext (.ref _) >>= _) _ _ _
        refine wpAny_bind ((Walks.dictValues hh3 _ d (Nat.ne_of_lt hlt) ([] : List (Int × Value)) ep).done _ _ _ ⟨⟨_, Heap.get?_push_size _ rfl, rfl, rfl⟩, hd1.push _⟩ fun h' tk hk => ?_)
        show wpAny _ _ (ret Value.none) _ _ _
        refine wpAny_pure ?_
        refine wpAny_pure ?_
        refine wpAny_pure ⟨rfl, h', tk, rfl, ?_, fun b o hb e => ?_⟩
        · refine ⟨_, 0, .fresh 0 0 led, hk _ _ ?_ (Heap.get?_push_of_some _ hS), rfl, rfl, rfl⟩
          rw [Heap.size_push]
          simp only [List.mem_singleton]
          exact Nat.ne_of_lt (Nat.lt_succ_self _)
        · refine hk b o ?_ (Heap.get?_push_of_some _ (Heap.get?_push_of_some _ e))
          rw [Heap.size_push]
          simp only [List.mem_singleton]
          exact Nat.ne_of_lt (Nat.lt_succ_of_lt hb)
      · cases r₂ with
        | error e => exact hr₂
        | ok fl₂ =>
          cases fl₂ with
          | ret q =>
            obtain ⟨rfl, h', tk, rfl, hS', hk'⟩ := hr₂
            repeat (any_goals (first | assumption | wp_step))
            exact h _ _ hS' hk'
          | _ => exact hr₂.elim
    | _ => exact hr.elim
theorem set_vals0 {h₀ : Heap} {L d r : Addr} {m : Str → Option Value} {news : List (Addr × Obj)} {ep : Nat} {Q : Value → Shared → Prop} (hh : A.handled = none) (F : Fr h₀ L s.heap m) (N : News h₀ L s.heap news)
    (hv : s.heap.IsValuesView r d) (hd : s.heap.DictAt (intKind prog w) d ([] : List (Int × Value)) ep)
    (h : ∀ S o h' tk, Fr h₀ L h' m → News h₀ L h' ((S, o) :: news) → (∀ q ∈ news, q.1 < S) → IsSet0 h' S → Q (.ref S) { s with heap := h', toks := tk }) :
    wpAny (model prog w) A (call (.type "set") [.ref r]) Q E s := by
  refine call_set_vals0 hh hv hd fun h' tk hS hk => ?_
  obtain ⟨o, ep', t, ho, hx⟩ := id hS
  refine h _ o h' tk (F.keeps fun b o e => hk b o (Heap.lt_size e) e) (news_pushed F N (fun b o e => hk b o (Heap.lt_size e) e) ho rfl) (fun q hq => Heap.lt_size (N q hq).1) hS
theorem vals_method {h₀ : Heap} {L d : Addr} {m : Str → Option Value} {kvs : List (Int × Value)} {pl : Sem Bool} {Q : Value × List Value → Shared → Prop} (F : Fr h₀ L s.heap m) (hD : h₀.DictOf (intKind prog w) d kvs) (h : Q (.builtin "dict.values", [.ref d]) s) :
    wpAny (model prog w) A (getMethod (.ref d) (Str.ofString "values") pl) Q E s :=
  have hD' : s.heap.DictOf (intKind prog w) d kvs := hD.at fun o e => F.keep _ _ e
  getMethod_builtin hD'.typeIs PySem.F.plainAttrs_dict PySem.F.slot_dict_values PySem.F.type_dict_values hD'.mapOf.noDict h
theorem vals_call {h₀ : Heap} {L d : Addr} {m : Str → Option Value} {news : List (Addr × Obj)} {kvs : List (Int × Value)} {Q : Value → Shared → Prop} (F : Fr h₀ L s.heap m) (N : News h₀ L s.heap news) (hD : h₀.DictOf (intKind prog w) d kvs) (lo : (d == sysModules) = false)
    (h : ∀ V h', Fr h₀ L h' m → News h₀ L h' ((V, ({ cls := .type "dict_values", data := .fields #[.ref d] } : Obj)) :: news) → (∀ q ∈ news, q.1 < V) → h'.IsValuesView V d → Q (.ref V) { s with heap := h' }) : wpAny (model prog w) A (call (.builtin "dict.values") [.ref d]) Q E s :=
  have hD' : s.heap.DictOf (intKind prog w) d kvs := hD.at fun o e => F.keep _ _ e
  call_meetsIn PySem.F.slot_dict_values hD'.typeIs PySem.F.entry_dict_values (PySem.F.args_dict_values_1 _) (meets_dict_values (intKind prog w) d lo) ⟨⟨kvs, hD'⟩, h _ _ (F.push _) (News.push F N _) (fun q hq => Heap.lt_size (N q hq).1) ⟨_, Heap.get?_push_size _ rfl, rfl, rfl⟩⟩
end
end

section
set_option maxHeartbeats 8000000
local macro_rules | `(tactic| walk_at "getMethod ref") => `(tactic| (k_here; k_dflt (refine vals_method (by k_asm) (by assumption) ?_)))
local macro_rules | `(tactic| walk_at "call builtin:dict.values") => `(tactic| (k_here; k_dflt (refine vals_call (by k_asm) (by k_asm) (by assumption) (by assumption) ?_); intro V' h' F' N' l1 hv'; (try k_lt l1)))
local macro_rules | `(tactic| walk_at "call type:set cons nil") => `(tactic| (k_here; (rename Heap.DictOf _ _ _ _ => hD'); (have hE' := (hD'.at fun o e => Fr.keep (by assumption) _ _ e).dictAt); obtain ⟨ep', hE'⟩ := hE'; k_dflt (refine set_vals0 (by rfl) (by k_asm) (by k_asm) (by assumption) hE' ?_); intro S' o' h' tk' F' N' l1 hs'; (try k_lt l1)))
local macro_rules | `(tactic| walk_at "call builtin:sorted") => `(tactic| (k_here; k_dflt (refine sorted_set0 (by rfl) (by k_asm) (by k_asm) (by assumption) ?_); intro D' c' h' tk' F' N' l1; (try k_lt l1)))
theorem for_none {prog : Program} {w : World} {A : Around} {s : Shared} {env : Env} {h₀ : Heap} {Q : Flow → Shared → Prop} {E : Value → Shared → Prop} {x : Str} {body : List Stmt} {m : Str → Option Value} {news : List (Addr × Obj)} {l : Addr} (hh : A.handled = none) (hl : h₀.IsList l #[])
    (F : Fr h₀ env.locals s.heap m) (N : News h₀ env.locals s.heap news) (done : ∀ h tk, Fr h₀ env.locals h m → News h₀ env.locals h news → Q .next { s with heap := h, toks := tk }) :
    wpAny (model prog w) A (pyIter (.ref l)) (fun it s₂ => LoopAtV prog w A h₀ env x body Q E it s₂) E s :=
  for_list hh hl F N (fun _ m₁ news₁ => m₁ = m ∧ news₁ = news) ⟨rfl, rfl⟩ (fun i v I oI m₁ news₁ h tk hv => by cases hv) fun m₁ news₁ h tk hJ F₁ N₁ => by
    obtain ⟨rfl, rfl⟩ := hJ
    exact done h tk F₁ N₁
local macro_rules | `(tactic| walk_at "exec For Name Name cons nil") => `(tactic| (k_here; (rename Fr _ _ _ _ => lF'); (with_unfolding_all refine' For_invVF lF' ?k1 ?k2 ?_; (case k1 => exact rfl); (case k2 => exact rfl); k_whole)))
local macro_rules | `(tactic| walk_at "pyIter ref") => `(tactic| (k_here; (with_reducible show wpAny _ _ (pyIter (Value.ref _)) (fun it s₂ => LoopAtV _ _ _ _ _ _ _ _ _ it s₂) _ _); (with_unfolding_all refine' for_none (by with_unfolding_all rfl) (by first | assumption | exact stays_list (Fr.keep (by assumption)) (by assumption)) (by k_asm) (by k_asm) ?_; k_whole); intro h' tk' F' N'))
/-- the tables: with no end rules and no rule that rejects -/
structure LexTab (k : Heap) (x er : Addr) (v5 : Value) : Prop where
  at_ : ∃ (dx : Addr) (od : Obj), InstAt k x (instObj 141 dx) 141 (some od) ∧ IsLex v5 (.ref er) (.bool false) od ∧ k.IsList er #[]
theorem tables_ok {w : World} {p : Program} {loose : List Str} {mean : ExcName → Option Value} {mg mb : Str → Option Value} {dp un : Nat} {gd : Option (List Code)} {env : Env} {outer : List Env}
    {A₀ : Around} {base h₀ : Heap} {L : Addr} {m : Str → Option Value} {s : Shared} {Q E : Value → Shared → Prop}
    (B : Below A₀ base outer h₀) (F : Fr h₀ L s.heap m) (X : (hd.heap_1 w.params).In h₀) (T : Top p loose mean mg mb h₀) (hf : env.frame = some L) (hke : env.scope.kind = .function) (hdp : dp < 700) (hun : un < 3000)
    {v1 v2 v3 v5 : Value} {rl ed : Addr} (hr : s.heap.IsList rl #[]) (he : s.heap.DictOf (intKind Challenge.rw_ok0116_01.row.prog w) ed ([] : List (Int × Value))) (lo : (ed == sysModules) = false)
    (ret : ∀ h' tk' x er, s.heap.StaysIn h' → NewIn s.heap h' (fun k => LexTab k x er v5) → Q (.ref x) { s with heap := h', toks := tk' }) :
    wpAny (model Challenge.rw_ok0116_01.row.prog w) { handled := none, depth := dp, frames := some (env :: outer), guards := gd, units := un } (call (.ref 141) [v1, v2, v3, .ref rl, v5, .ref ed, .bool true]) Q E s := by
  w_top off
  revert X; k_fill; intro X
  refine' call_clsX F X ?k4 ?k5 ?k6 ?_
  (case k4 => k_is)
  (case k5 => k_is)
  (case k6 => k_is)
  intro x dx h1 F1 N1 kp lt
  refine' code_defG B F1 X N1 T rfl hf hke ?k6 ?k7 ?k8 ?k9 ?kB ?_ ?c2 ?c3 ?c4 ?c5
  (case k6 => k_is)
  (case k7 => k_is)
  (case k8 => k_room)
  (case k9 => exact BindsTo.of_eq rfl)
  (case c5 => decide)
  (case kB => exact locs rfl)
  (case c2 => exact rfl)
  (case c3 => exact rfl)
  (case c4 => exact rfl)
  intro g L' h₁ FG F' N' B' X' T' GS
  have k0 : s.heap.StaysIn g := ground2 kp GS
  have hr' : g.IsList rl #[] := stays_list k0 hr
  have he' : g.DictOf (intKind Challenge.rw_ok0116_01.row.prog w) ed ([] : List (Int × Value)) := he.at fun o e => k0 _ _ e
  try k_fold
  refine' wp_gen2 ?hE9 ?_
  (case hE9 => passes_own)
  intro Q9 E9 hQ9 hE9 hP9
  k_steps
  subst hQ9
  (try dsimp only)
  k_steps
  rename Fr g _ _ _ => F8
  rename News g _ _ _ => N8
  exact ret _ _ _ _ (fun b o e => F8.keep b o (k0 b o e)) (newIn_of k0 N8 fun k hk => ⟨⟨_, _, has_inst hk (.tail _ (.tail _ (.tail _ (.head _)))) (.tail _ (.tail _ (.tail _ (.tail _ (.head _))))), .mk, has_isList hk (.head _)⟩⟩)
end

section
set_option maxHeartbeats 200000
/-- the heap has these -/
def Has (D : List (Addr × Obj)) (k : Heap) : Prop := ∀ q ∈ D, k.get? q.1 = some q.2
/-- two lists of objects have no address in common -/
def Apart (D E : List (Addr × Obj)) : Prop := ∀ q ∈ D, ∀ p ∈ E, @Ne Nat q.1 p.1
theorem Has.sub {D E : List (Addr × Obj)} {k : Heap} (h : Has E k) (s : ∀ q ∈ D, q ∈ E) : Has D k := fun q hq => h q (s q hq)
theorem Has.of {D E : List (Addr × Obj)} {h₀ k : Heap} {L : Addr} (N : News h₀ L k E) (s : ∀ q ∈ D, q ∈ E) : Has D k := fun q hq => (N q (s q hq)).1
/-- what is new -/
noncomputable def newsOf (h h' : Heap) : List (Addr × Obj) := (List.range h'.objs.size).filterMap fun b => match h.get? b with
  | some _ => none
  | none => (h'.get? b).map fun o => (b, o)
theorem newsOf_mem {h h' : Heap} {b : Addr} {o : Obj} (e : h.get? b = none) (e' : h'.get? b = some o) : (b, o) ∈ newsOf h h' := by
  unfold newsOf
  refine List.mem_filterMap.mpr ⟨b, List.mem_range.mpr (Heap.lt_size e'), ?_⟩
  simp [e, e']
theorem newsOf_get {h h' : Heap} {q : Addr × Obj} (hq : q ∈ newsOf h h') : h.get? q.1 = none ∧ h'.get? q.1 = some q.2 := by
  unfold newsOf at hq
  obtain ⟨b, _, hb⟩ := List.mem_filterMap.mp hq
  cases e : h.get? b with
  | some o => simp [e] at hb
  | none =>
    cases e' : h'.get? b with
    | none => simp [e, e'] at hb
    | some o => simp [e, e'] at hb; subst hb; exact ⟨e, e'⟩
theorem newsOf_news {h₀ h h' : Heap} {L : Addr} {m : Str → Option Value} (F : Fr h₀ L h m) : News h₀ L h' (newsOf h h') := fun q hq => by
  obtain ⟨e, e'⟩ := newsOf_get hq
  refine ⟨e', fun hL => ?_, ?_⟩
  · obtain ⟨o, es, ep, e2, _⟩ := F.ns
    rw [hL] at e; rw [e] at e2; cases e2
  · cases e3 : h₀.get? q.1 with
    | none => rfl
    | some o => have := F.keep _ _ e3; rw [e] at this; cases this
theorem newsOf_apart {h₀ h h' : Heap} {L : Addr} {all : List (Addr × Obj)} (N : News h₀ L h all) : Apart (newsOf h h') all := fun q hq p hp he => by
  have e := (newsOf_get hq).1
  rw [show q.1 = p.1 from he, (N p hp).1] at e; cases e
theorem newIn_has {h h' : Heap} {P : Heap → Prop} (x : NewIn h h' P) : ∀ k, Has (newsOf h h') k → P k := fun k hk => x k fun b o e e' => hk (b, o) (newsOf_mem e e')
theorem news_app {h₀ h : Heap} {L : Addr} {a b : List (Addr × Obj)} (x : News h₀ L h a) (y : News h₀ L h b) : News h₀ L h (a ++ b) := fun q hq => by
  rcases List.mem_append.mp hq with hq | hq
  · exact x q hq
  · exact y q hq

theorem auto_use {w : World} {p : Program} {loose : List Str} {mean : ExcName → Option Value} {mg mb : Str → Option Value} {dp un : Nat} {gd : Option (List Code)} {env : Env} {outer : List Env}
    {A₀ : Around} {base h₀ : Heap} {L : Addr} {m : Str → Option Value} {s : Shared} {Q E : Value → Shared → Prop}
    (B : Below A₀ base outer h₀) (F : Fr h₀ L s.heap m) (X : (hd.heap_1 w.params).In h₀) (T : Top p loose mean mg mb h₀) (hf : env.frame = some L) (hke : env.scope.kind = .function) (hdp : dp < 800)
    {f pl : Addr} {TO all : List (Addr × Obj)} {k : Int} {kt : Tok} (TS : TakeSpec w f pl TO) (hfn : ∃ oc od fd sl, (f, (⟨oc, od, .func fd, sl⟩ : Obj)) ∈ TO) (N : News h₀ L s.heap all) (hm : (pl, listOf #[.int k kt] 0) ∈ all) (hs : ∀ p ∈ TO, p ∈ all) (neTO : ∀ q ∈ TO, @Ne Nat q.1 pl) (hk0 : 0 ≤ k) (hk1 : k < 360)
    (ret : ∀ h' tk' t k' kt' a D, Fr h₀ L h' m → (∀ all', Upd pl (listOf #[.int k kt] 0) (listOf #[.int k' kt'] 0) all all' → News h₀ L h' (all' ++ D)) → Apart D all → k ≤ k' → k' ≤ k + 40 → a.Ok → (∀ k9, Has D k9 → AutAt k9 t a) → Q (.ref t) { s with heap := h', toks := tk' }) :
    wpAny (model Challenge.rw_ok0116_01.row.prog w) { handled := none, depth := dp, frames := some (env :: outer), guards := gd, units := un } (call (.ref 431) [.ref f]) Q E s :=
  auto_ok B F X T hf hke hdp TS hfn (news_sub2 N hm hs) neTO hk0 hk1 fun h' tk' t k' kt' a x hpl c0 c1 ok hN =>
    ret h' tk' t k' kt' a (newsOf s.heap h') (fr_ext F N hm x) (fun all' U => news_app (news_ext N U x hpl) (newsOf_news F)) (newsOf_apart N) c0 c1 ok (newIn_has hN)

def TupIn (D : List (Addr × Obj)) (t : Addr) (items : Array Value) : Prop := ∀ k, Has D k → IsTup k t items
theorem TupIn.at_ {D : List (Addr × Obj)} {t : Addr} {items : Array Value} {k : Heap} (x : TupIn D t items) (h : Has D k) : IsTup k t items := x k h
def AutIn (D : List (Addr × Obj)) (t : Addr) (a : Aut) : Prop := ∀ k, Has D k → AutAt k t a
/-- a plan, in every heap that has these -/
def PlanIn (D : List (Addr × Obj)) (v : Value) : Plan → Prop
  | .none => v = .none
  | .behind n => ∃ (t : Addr) (k1 k2 : Tok), v = .ref t ∧ TupIn D t #[.str (Str.ofString "behind") k1, .int n k2]
  | .ahead n => ∃ (t : Addr) (k1 k2 : Tok), v = .ref t ∧ TupIn D t #[.str (Str.ofString "ahead") k1, .int n k2]
  | .search a b => ∃ (t : Addr) (k : Tok) (ta tb : Addr), v = .ref t ∧ TupIn D t #[.str (Str.ofString "search") k, .ref ta, .ref tb] ∧ AutIn D ta a ∧ AutIn D tb b
theorem TupIn.mono {D E : List (Addr × Obj)} {t : Addr} {items : Array Value} (x : TupIn D t items) (s : ∀ q ∈ D, q ∈ E) : TupIn E t items := fun k hk => x k (hk.sub s)
theorem AutIn.mono {D E : List (Addr × Obj)} {t : Addr} {a : Aut} (x : AutIn D t a) (s : ∀ q ∈ D, q ∈ E) : AutIn E t a := fun k hk => x k (hk.sub s)
theorem PlanIn.mono {D E : List (Addr × Obj)} {v : Value} : ∀ {p : Plan}, PlanIn D v p → (∀ q ∈ D, q ∈ E) → PlanIn E v p
  | .none, e, _ => e
  | .behind _, ⟨t, k1, k2, e, i⟩, s => ⟨t, k1, k2, e, i.mono s⟩
  | .ahead _, ⟨t, k1, k2, e, i⟩, s => ⟨t, k1, k2, e, i.mono s⟩
  | .search _ _, ⟨t, k, ta, tb, e, i, x, y⟩, s => ⟨t, k, ta, tb, e, i.mono s, x.mono s, y.mono s⟩
theorem PlanIn.at_ {D : List (Addr × Obj)} {k : Heap} {v : Value} : ∀ {p : Plan}, PlanIn D v p → Has D k → PlanAt k v p
  | .none, e, _ => e
  | .behind _, ⟨t, k1, k2, e, i⟩, s => ⟨t, k1, k2, e, i _ s⟩
  | .ahead _, ⟨t, k1, k2, e, i⟩, s => ⟨t, k1, k2, e, i _ s⟩
  | .search _ _, ⟨t, k, ta, tb, e, i, x, y⟩, s => ⟨t, k, ta, tb, e, i _ s, x _ s, y _ s⟩
/-- the plans are told by these values -/
def PlansAt (D : List (Addr × Obj)) (vs : List Value) (ps : List Plan) : Prop :=
  vs.length = ps.length ∧ ∀ (j : Nat) (p : Plan), ps[j]? = some p → p.Ok ∧ ∃ v, vs[j]? = some v ∧ PlanIn D v p
theorem PlansAt.nil {D : List (Addr × Obj)} : PlansAt D [] [] := ⟨rfl, fun j p h => by simp at h⟩
theorem PlansAt.snoc {D D' : List (Addr × Obj)} {vs : List Value} {ps : List Plan} {v : Value} {p : Plan} (x : PlansAt D vs ps) (s : ∀ q ∈ D, q ∈ D') (ok : p.Ok) (hv : PlanIn D' v p) : PlansAt D' (vs ++ [v]) (ps ++ [p]) := by
  obtain ⟨hl, h⟩ := x
  refine ⟨by simp [hl], fun j q hq => ?_⟩
  by_cases hj : j < ps.length
  · rw [List.getElem?_append_left hj] at hq
    obtain ⟨o, v', e, hp⟩ := h j q hq
    exact ⟨o, v', by rw [List.getElem?_append_left (by omega)]; exact e, hp.mono s⟩
  · have hlt : j < (ps ++ [p]).length := (List.getElem?_eq_some_iff.mp hq).1
    have e : j = ps.length := by simp at hlt; omega
    subst e
    simp at hq
    subst hq
    exact ⟨ok, v, by rw [← hl]; simp, hv⟩
theorem memAll {p : Addr × Obj} {D E : List (Addr × Obj)} (h : p ∈ E) (t : ∀ q ∈ D, q ∈ E) : ∀ q ∈ p :: D, q ∈ E := fun q hq => by
  rcases List.mem_cons.mp hq with rfl | hq
  · exact h
  · exact t q hq
theorem app_ne {D E : List (Addr × Obj)} {x : Nat} (h : ∀ q ∈ D, @Ne Nat q.1 x) (t : ∀ q ∈ E, @Ne Nat q.1 x) : ∀ q ∈ D ++ E, @Ne Nat q.1 x := fun q hq => by
  rcases List.mem_append.mp hq with hq | hq
  · exact h q hq
  · exact t q hq
theorem cons_ne {D : List (Addr × Obj)} {p : Addr × Obj} {x : Nat} (h : @Ne Nat p.1 x) (t : ∀ q ∈ D, @Ne Nat q.1 x) : ∀ q ∈ p :: D, @Ne Nat q.1 x := fun q hq => by
  rcases List.mem_cons.mp hq with rfl | hq
  · exact h
  · exact t q hq
def J1 (pl C P : Addr) (oT oC : Obj) (TO : List (Addr × Obj)) (m : Str → Option Value) (i : Nat) (m₁ : Str → Option Value) (news : List (Addr × Obj)) : Prop :=
  (∀ z, z ≠ Str.ofString "number" → z ≠ Str.ofString "way" → m₁ z = m z) ∧ ∃ (vs : List Value) (n : Nat) (ps : List Plan) (k : Int) (kt : Tok) (D : List (Addr × Obj)),
    news = (P, listOf vs.toArray n) :: (pl, listOf #[.int k kt] 0) :: (421, oT) :: (C, oC) :: D ∧ PlansAt D vs ps ∧ ps.length = i ∧ (∀ q ∈ TO, q ∈ D) ∧
    (∀ q ∈ D, @Ne Nat q.1 P) ∧ (∀ q ∈ D, @Ne Nat q.1 pl) ∧ (∀ q ∈ D, @Ne Nat q.1 421) ∧ (∀ q ∈ D, @Ne Nat q.1 C) ∧ 1 ≤ k ∧ k ≤ 1 + 81 * (i : Int)
theorem turn0 {h₀ h' : Heap} {L pl C P I : Addr} {oT oC oI : Obj} {TO D E all : List (Addr × Obj)} {m m₂ : Str → Option Value} {i n : Nat} {k : Int} {kt : Tok} {vs : List Value} {v : Value} {ps : List Plan} {p : Plan} {s₁ : Shared} {tk : Nat}
    (F : Fr h₀ L h' m₂) (N : News h₀ L h' all) (hv : PlanIn E v p)
    (sub : ∀ q ∈ (I, oI) :: (P, listOf (vs ++ [v]).toArray n) :: (pl, listOf #[.int k kt] 0) :: (421, oT) :: (C, oC) :: E, q ∈ all)
    (hm : ∀ z, z ≠ Str.ofString "number" → z ≠ Str.ofString "way" → m₂ z = m z) (a1 : @Ne Nat P I) (a2 : @Ne Nat pl I) (a3 : @Ne Nat 421 I) (a4 : @Ne Nat C I) (a5 : ∀ q ∈ E, @Ne Nat q.1 I)
    (b1 : ∀ q ∈ E, @Ne Nat q.1 P) (b2 : ∀ q ∈ E, @Ne Nat q.1 pl) (b3 : ∀ q ∈ E, @Ne Nat q.1 421) (b4 : ∀ q ∈ E, @Ne Nat q.1 C) (hPs : PlansAt D vs ps) (sD : ∀ q ∈ D, q ∈ E) (sTO : ∀ q ∈ TO, q ∈ D) (hpl : ps.length = i) (ok : p.Ok)
    (k0 : 1 ≤ k) (k1 : k ≤ 1 + 81 * ((i + 1 : Nat) : Int)) : TurnNext h₀ L I oI (J1 pl C P oT oC TO m (i + 1)) s₁ { s₁ with heap := h', toks := tk } :=
  TurnNext.intro ((P, listOf (vs ++ [v]).toArray n) :: (pl, listOf #[.int k kt] 0) :: (421, oT) :: (C, oC) :: E) F N sub (cons_ne a1 (cons_ne a2 (cons_ne a3 (cons_ne a4 a5))))
    ⟨hm, vs ++ [v], n, ps ++ [p], k, kt, E, rfl, hPs.snoc sD ok hv, by simp [hpl], fun q hq => sD q (sTO q hq), b1, b2, b3, b4, k0, k1⟩
theorem has_tup9 {k : Heap} {D : List (Addr × Obj)} {a : Addr} {items : Array Value} {n : Nat} (x : Has ((a, ({ cls := .type "tuple", data := .seq items n } : Obj)) :: D) k) : IsTup k a items := ⟨_, x _ (.head _), rfl, _, rfl⟩
end

section
set_option maxHeartbeats 200000
theorem news_rot {h₀ h : Heap} {L : Addr} {a b c d e : Addr × Obj} {D : List (Addr × Obj)} (N : News h₀ L h (a :: b :: c :: d :: e :: D)) : News h₀ L h (a :: c :: d :: e :: b :: D) := fun q hq => N q (by
  simp only [List.mem_cons] at hq ⊢
  rcases hq with hq | hq | hq | hq | hq | hq <;> simp [hq])
theorem dfa_use {w : World} {p : Program} {loose : List Str} {mean : ExcName → Option Value} {mg mb : Str → Option Value} {dp un : Nat} {gd : Option (List Code)} {env : Env} {outer : List Env}
    {A₀ : Around} {base h₀ : Heap} {L : Addr} {m : Str → Option Value} {s : Shared} {Q E : Value → Shared → Prop}
    (B : Below A₀ base outer h₀) (F : Fr h₀ L s.heap m) (X : (hd.heap_1 w.params).In h₀) (T : Top p loose mean mg mb h₀) (hf : env.frame = some L) (hke : env.scope.kind = .function) (hdp : dp < 900)
    {t : Addr} {a : Aut} {all : List (Addr × Obj)} (N : News h₀ L s.heap all) (D : AutAt s.heap t a) (ok : a.Ok)
    (ret : ∀ h' tk' x D, s.heap.StaysIn h' → Fr h₀ L h' m → News h₀ L h' (all ++ D) → Apart D all → (∀ k9, Has D k9 → DfaAt k9 x a) → Q (.ref x) { s with heap := h', toks := tk' }) :
    wpAny (model Challenge.rw_ok0116_01.row.prog w) { handled := none, depth := dp, frames := some (env :: outer), guards := gd, units := un } (call (.ref 436) [.ref t]) Q E s :=
  dfa_ok B F X T hf hke hdp D ok fun h' tk' x k hN =>
    ret h' tk' x (newsOf s.heap h') k (Fr.keeps F k) (news_app (News.grown N k) (newsOf_news F)) (newsOf_apart N) (newIn_has hN)
/-- the cuts of the first plans -/
def CutsAt (D : List (Addr × Obj)) (kvs : List (Int × Value)) (ps : List Plan) (i : Nat) : Prop :=
  (∀ kv ∈ kvs, 0 ≤ kv.1 ∧ kv.1 < (i : Int)) ∧ ∀ (j : Nat) (p : Plan), j < i → ps[j]? = some p → ∀ k, Has D k → CutOk k (valueAt kvs (j : Int)) p
theorem CutsAt.none_at {D : List (Addr × Obj)} {kvs : List (Int × Value)} {ps : List Plan} {i : Nat} (x : CutsAt D kvs ps i) : valueAt kvs (i : Int) = none := by
  refine valueAt_none_of_not_mem fun hm => ?_
  obtain ⟨kv, hkv, e⟩ := List.mem_map.mp hm
  have := (x.1 kv hkv).2
  rw [e] at this
  omega
theorem CutsAt.skip {D : List (Addr × Obj)} {kvs : List (Int × Value)} {ps : List Plan} {i : Nat} (x : CutsAt D kvs ps i) (hp : ps[i]? = some .none) : CutsAt D kvs ps (i + 1) := by
  refine ⟨fun kv h => ⟨(x.1 kv h).1, by have := (x.1 kv h).2; omega⟩, fun j p hj hq k hk => ?_⟩
  by_cases e : j = i
  · subst e
    rw [hp] at hq
    cases hq
    exact x.none_at
  · exact x.2 j p (by omega) hq k hk
theorem CutsAt.put {D D' : List (Addr × Obj)} {kvs : List (Int × Value)} {ps : List Plan} {i : Nat} {p : Plan} {v : Value} (x : CutsAt D kvs ps i) (hp : ps[i]? = some p) (s : ∀ q ∈ D, q ∈ D') (hv : ∀ k, Has D' k → CutOk k (some v) p) :
    CutsAt D' (stored kvs (i : Int) v) ps (i + 1) := by
  rw [stored_absent x.none_at]
  refine ⟨fun kv h => ?_, fun j q hj hq k hk => ?_⟩
  · rcases List.mem_append.mp h with h | h
    · exact ⟨(x.1 kv h).1, by have := (x.1 kv h).2; omega⟩
    · rw [List.mem_singleton.mp h]
      exact ⟨by dsimp only; omega, by dsimp only; omega⟩
  · by_cases e : j = i
    · subst e
      rw [hp] at hq
      cases hq
      have : valueAt (kvs ++ [((j : Int), v)]) (j : Int) = some v := by
        have hn := x.none_at
        unfold valueAt at hn ⊢
        rw [List.find?_append]
        simp only [Option.map_eq_none_iff] at hn
        rw [hn]
        simp
      rw [this]
      exact hv k hk
    · have : valueAt (kvs ++ [((i : Int), v)]) (j : Int) = valueAt kvs (j : Int) := by
        unfold valueAt
        rw [List.find?_append]
        have h2 : ([((i : Int), v)] : List (Int × Value)).find? (fun kv => kv.1 = (j : Int)) = none := by
          simp only [List.find?_cons, List.find?_nil]
          rw [decide_eq_false (by omega)]
        rw [h2]
        cases (kvs.find? fun kv => kv.1 = (j : Int)) <;> rfl
      rw [this]
      exact x.2 j q (by omega) hq k (hk.sub s)
def J2 (prog : Program) (w : World) (pl C cd : Addr) (ok oT oC : Obj) (D0 : List (Addr × Obj)) (ps : List Plan) (m : Str → Option Value) (i : Nat) (m₁ : Str → Option Value) (news : List (Addr × Obj)) : Prop :=
  (∀ z, z ≠ Str.ofString "number" → z ≠ Str.ofString "plan" → m₁ z = m z) ∧ ∃ (od : Obj) (kvs : List (Int × Value)) (D : List (Addr × Obj)),
    news = (cd, od) :: (pl, ok) :: (421, oT) :: (C, oC) :: D ∧ od.IsDictOf (intKind prog w) kvs ∧ CutsAt D kvs ps i ∧ kvs.length ≤ i ∧ (∀ q ∈ D0, q ∈ D) ∧
    (∀ q ∈ D, @Ne Nat q.1 cd) ∧ (∀ q ∈ D, @Ne Nat q.1 pl) ∧ (∀ q ∈ D, @Ne Nat q.1 421) ∧ (∀ q ∈ D, @Ne Nat q.1 C)
theorem turn2 {prog : Program} {w : World} {h₀ h' : Heap} {L pl C cd I : Addr} {ok oT oC oI od : Obj} {D0 E all : List (Addr × Obj)} {m m₂ : Str → Option Value} {i : Nat} {kvs : List (Int × Value)} {ps : List Plan} {s₁ : Shared} {tk : Nat}
    (F : Fr h₀ L h' m₂) (N : News h₀ L h' all) (hd : od.IsDictOf (intKind prog w) kvs) (hC : CutsAt E kvs ps (i + 1)) (hl : kvs.length ≤ i + 1)
    (sub : ∀ q ∈ (I, oI) :: (cd, od) :: (pl, ok) :: (421, oT) :: (C, oC) :: E, q ∈ all)
    (hm : ∀ z, z ≠ Str.ofString "number" → z ≠ Str.ofString "plan" → m₂ z = m z) (a1 : @Ne Nat cd I) (a2 : @Ne Nat pl I) (a3 : @Ne Nat 421 I) (a4 : @Ne Nat C I) (a5 : ∀ q ∈ E, @Ne Nat q.1 I)
    (b1 : ∀ q ∈ E, @Ne Nat q.1 cd) (b2 : ∀ q ∈ E, @Ne Nat q.1 pl) (b3 : ∀ q ∈ E, @Ne Nat q.1 421) (b4 : ∀ q ∈ E, @Ne Nat q.1 C) (sD : ∀ q ∈ D0, q ∈ E) : TurnNext h₀ L I oI (J2 prog w pl C cd ok oT oC D0 ps m (i + 1)) s₁ { s₁ with heap := h', toks := tk } :=
  TurnNext.intro ((cd, od) :: (pl, ok) :: (421, oT) :: (C, oC) :: E) F N sub (cons_ne a1 (cons_ne a2 (cons_ne a3 (cons_ne a4 a5))))
    ⟨hm, od, kvs, E, rfl, hd, hC, hl, sD, b1, b2, b3, b4⟩
theorem item2_0 {prog : Program} {w : World} {A : Around} {E : Value → Shared → Prop} {s : Shared} {value slice : PySem.Expr} {t : Addr} {a b : Value} {u : Tok} {Q : Value → Shared → Prop} (ht : IsTup s.heap t #[a, b]) (h : Q a s)
    (hs : subscripted slice false (.ref t) (.int 0 u) = operate [.ref t, .int 0 u] (getItem (.ref t) (.int 0 u)) := by with_unfolding_all rfl) :
    wpAny (model prog w) A (subscriptTail value slice (.ref t) (.int 0 u)) Q E s :=
  item_tupleT (l := [a, b]) (j := 0) (x := a) ht (by decide) (by decide) rfl rfl h hs
theorem item2_1 {prog : Program} {w : World} {A : Around} {E : Value → Shared → Prop} {s : Shared} {value slice : PySem.Expr} {t : Addr} {a b : Value} {u : Tok} {Q : Value → Shared → Prop} (ht : IsTup s.heap t #[a, b]) (h : Q b s)
    (hs : subscripted slice false (.ref t) (.int 1 u) = operate [.ref t, .int 1 u] (getItem (.ref t) (.int 1 u)) := by with_unfolding_all rfl) :
    wpAny (model prog w) A (subscriptTail value slice (.ref t) (.int 1 u)) Q E s :=
  item_tupleT (l := [a, b]) (j := 1) (x := b) ht (by decide) (by decide) rfl rfl h hs
theorem item3_0 {prog : Program} {w : World} {A : Around} {E : Value → Shared → Prop} {s : Shared} {value slice : PySem.Expr} {t : Addr} {a b c : Value} {u : Tok} {Q : Value → Shared → Prop} (ht : IsTup s.heap t #[a, b, c]) (h : Q a s)
    (hs : subscripted slice false (.ref t) (.int 0 u) = operate [.ref t, .int 0 u] (getItem (.ref t) (.int 0 u)) := by with_unfolding_all rfl) :
    wpAny (model prog w) A (subscriptTail value slice (.ref t) (.int 0 u)) Q E s :=
  item_tupleT (l := [a, b, c]) (j := 0) (x := a) ht (by decide) (by decide) rfl rfl h hs
theorem item3_1 {prog : Program} {w : World} {A : Around} {E : Value → Shared → Prop} {s : Shared} {value slice : PySem.Expr} {t : Addr} {a b c : Value} {u : Tok} {Q : Value → Shared → Prop} (ht : IsTup s.heap t #[a, b, c]) (h : Q b s)
    (hs : subscripted slice false (.ref t) (.int 1 u) = operate [.ref t, .int 1 u] (getItem (.ref t) (.int 1 u)) := by with_unfolding_all rfl) :
    wpAny (model prog w) A (subscriptTail value slice (.ref t) (.int 1 u)) Q E s :=
  item_tupleT (l := [a, b, c]) (j := 1) (x := b) ht (by decide) (by decide) rfl rfl h hs
theorem item3_2 {prog : Program} {w : World} {A : Around} {E : Value → Shared → Prop} {s : Shared} {value slice : PySem.Expr} {t : Addr} {a b c : Value} {u : Tok} {Q : Value → Shared → Prop} (ht : IsTup s.heap t #[a, b, c]) (h : Q c s)
    (hs : subscripted slice false (.ref t) (.int 2 u) = operate [.ref t, .int 2 u] (getItem (.ref t) (.int 2 u)) := by with_unfolding_all rfl) :
    wpAny (model prog w) A (subscriptTail value slice (.ref t) (.int 2 u)) Q E s :=
  item_tupleT (l := [a, b, c]) (j := 2) (x := c) ht (by decide) (by decide) rfl rfl h hs
end

section
set_option maxHeartbeats 200000
section
variable {w : World} {p : Program} {loose : List Str} {mean : ExcName → Option Value} {mg mb : Str → Option Value} {dp un : Nat} {gd : Option (List Code)} {env : Env} {outer : List Env}
    {A₀ : Around} {base h₀ : Heap} {L : Addr} {m : Str → Option Value} {s : Shared} {Q E : Value → Shared → Prop}
theorem of_use (B : Below A₀ base outer h₀) (F : Fr h₀ L s.heap m) (X : (hd.heap_1 w.params).In h₀) (T : Top p loose mean mg mb h₀) (hf : env.frame = some L) (hke : env.scope.kind = .function) (hdp : dp < 700) (hun : un < 3000)
    {all : List (Addr × Obj)} (N : News h₀ L s.heap all) {tx : Str} {t0 : Tok} {n : Int} (hsz : tx.cps.size = 1) (hn : ((tx.cps.getD 0 0 : Nat) : Int) = n) (n0 : 0 ≤ n) (n1 : n ≤ 126)
    (ret : ∀ h' tk' x D, s.heap.StaysIn h' → Fr h₀ L h' m → News h₀ L h' (all ++ D) → Apart D all → (∀ k9, Has D k9 → CharAt k9 x n) → Q (.ref x) { s with heap := h', toks := tk' }) :
    wpAny (model Challenge.rw_ok0116_01.row.prog w) { handled := none, depth := dp, frames := some (env :: outer), guards := gd, units := un } (call (.ref 222) [.str tx t0]) Q E s :=
  of_ok B F X T hf hke hdp hun hsz hn n0 n1 fun h' tk' x k hN =>
    ret h' tk' x (newsOf s.heap h') k (Fr.keeps F k) (news_app (News.grown N k) (newsOf_news F)) (newsOf_apart N) (newIn_has hN)
theorem classes_use (B : Below A₀ base outer h₀) (F : Fr h₀ L s.heap m) (X : (hd.heap_1 w.params).In h₀) (T : Top p loose mean mg mb h₀) (hf : env.frame = some L) (hke : env.scope.kind = .function) (hdp : dp < 700) (hun : un < 3000)
    {all : List (Addr × Obj)} (N : News h₀ L s.heap all) {l x1 x2 : Addr} (hl : s.heap.IsList l #[.ref x1, .ref x2]) (c1 : CharAt s.heap x1 97) (c2 : CharAt s.heap x2 98)
    (ret : ∀ h' tk' x, s.heap.StaysIn h' → Fr h₀ L h' m → News h₀ L h' all → Q (.ref x) { s with heap := h', toks := tk' }) :
    wpAny (model Challenge.rw_ok0116_01.row.prog w) { handled := none, depth := dp, frames := some (env :: outer), guards := gd, units := un } (call (.ref 415) [.ref l]) Q E s :=
  classes_ok B F X T hf hke hdp hun hl c1 c2 fun h' tk' x k => ret h' tk' x k (Fr.keeps F k) (News.grown N k)
theorem tables_use (B : Below A₀ base outer h₀) (F : Fr h₀ L s.heap m) (X : (hd.heap_1 w.params).In h₀) (T : Top p loose mean mg mb h₀) (hf : env.frame = some L) (hke : env.scope.kind = .function) (hdp : dp < 700) (hun : un < 3000)
    {all : List (Addr × Obj)} (N : News h₀ L s.heap all) {v1 v2 v3 v5 : Value} {rl ed : Addr} (hr : s.heap.IsList rl #[]) (he : s.heap.DictOf (intKind Challenge.rw_ok0116_01.row.prog w) ed ([] : List (Int × Value))) (lo : (ed == sysModules) = false)
    (ret : ∀ h' tk' x er D, s.heap.StaysIn h' → Fr h₀ L h' m → News h₀ L h' (all ++ D) → Apart D all → (∀ k9, Has D k9 → LexTab k9 x er v5) → Q (.ref x) { s with heap := h', toks := tk' }) :
    wpAny (model Challenge.rw_ok0116_01.row.prog w) { handled := none, depth := dp, frames := some (env :: outer), guards := gd, units := un } (call (.ref 141) [v1, v2, v3, .ref rl, v5, .ref ed, .bool true]) Q E s :=
  tables_ok B F X T hf hke hdp hun hr he lo fun h' tk' x er k hN =>
    ret h' tk' x er (newsOf s.heap h') k (Fr.keeps F k) (news_app (News.grown N k) (newsOf_news F)) (newsOf_apart N) (newIn_has hN)
end
theorem CutsAt.mono {D D' : List (Addr × Obj)} {kvs : List (Int × Value)} {ps : List Plan} {i : Nat} (x : CutsAt D kvs ps i) (s : ∀ q ∈ D, q ∈ D') : CutsAt D' kvs ps i :=
  ⟨x.1, fun j p hj hp k hk => x.2 j p hj hp k (hk.sub s)⟩
theorem PlansAt.mono {D D' : List (Addr × Obj)} {vs : List Value} {ps : List Plan} (x : PlansAt D vs ps) (s : ∀ q ∈ D, q ∈ D') : PlansAt D' vs ps :=
  ⟨x.1, fun j p hj => let ⟨o, v, e, y⟩ := x.2 j p hj; ⟨o, v, e, y.mono s⟩⟩
theorem LexTab.lex {prog : Program} {w : World} {h₀ k : Heap} {L x er cd : Addr} {od : Obj} {all : List (Addr × Obj)} {kvs : List (Int × Value)} (T : LexTab k x er (.ref cd)) (N : News h₀ L k all) (hm : (cd, od) ∈ all) (hd : od.IsDictOf (intKind prog w) kvs) (lo : (cd == sysModules) = false) : LexAt prog w k x cd kvs :=
  ⟨let ⟨dx, od, I, x, _⟩ := T.at_; ⟨dx, od, _, _, I, x⟩, Heap.dictOf_iff.mpr ⟨_, (N _ hm).1, hd⟩, lo⟩
theorem news_five {h₀ h : Heap} {L : Addr} {a b c d e f g i j : Addr × Obj} {D : List (Addr × Obj)} (N : News h₀ L h (a :: b :: c :: d :: e :: f :: g :: i :: j :: D)) : News h₀ L h (g :: i :: j :: f :: D) := fun q hq => N q (by
  simp only [List.mem_cons] at hq ⊢
  rcases hq with hq | hq | hq | hq | hq <;> simp [hq])
/-- what stands when the words begin -/
structure Stand (prog : Program) (w : World) (TO D : List (Addr × Obj)) (P cd tb er f pl C : Addr) (n : Nat) (od : Obj) (fo : Obj) (vs : List Value) (ps : List Plan) (kvs : List (Int × Value)) : Prop where
  plans : PlansAt D vs ps
  pm : (P, listOf vs.toArray n) ∈ D
  fm : (f, fo) ∈ D
  cuts : CutsAt D kvs ps ps.length
  cm : (cd, od) ∈ D
  dict : od.IsDictOf (intKind prog w) kvs
  lo : (cd == sysModules) = false
  tab : ∀ k, Has D k → LexTab k tb er (.ref cd)
  n1 : ∀ q ∈ D, @Ne Nat q.1 pl
  n2 : ∀ q ∈ D, @Ne Nat q.1 421
  n3 : ∀ q ∈ D, @Ne Nat q.1 C
  tos : ∀ q ∈ TO, q ∈ D
theorem pin3u {m₁ m₀ : Str → Option Value} {x a b c : Str} {v : Option Value} (rest : ∀ z, z ≠ x → z ≠ a → z ≠ b → z ≠ c → m₁ z = m₀ z) :
    (fun y => if y = x then v else m₁ y) = fun y => if y = x then v else if y = a then m₁ a else if y = b then m₁ b else if y = c then m₁ c else m₀ y := by
  funext z
  by_cases h1 : z = x
  · simp [h1]
  · simp only [if_neg h1]
    by_cases h2 : z = a
    · simp [h2]
    · simp only [if_neg h2]
      by_cases h3 : z = b
      · simp [h3]
      · simp only [if_neg h3]
        by_cases h4 : z = c
        · simp [h4]
        · simp only [if_neg h4]; exact rest z h1 h2 h3 h4
theorem pin1u {m₁ m₀ : Str → Option Value} {x a : Str} {v : Option Value} (rest : ∀ z, z ≠ x → z ≠ a → m₁ z = m₀ z) :
    (fun y => if y = x then v else m₁ y) = fun y => if y = x then v else if y = a then m₁ a else m₀ y := pin1 rfl rest
/-- between the words -/
def J3 (pl C : Addr) (oT oC : Obj) (D : List (Addr × Obj)) (m : Str → Option Value) (k0 : Int) (i : Nat) (m₁ : Str → Option Value) (news : List (Addr × Obj)) : Prop :=
  (∀ z, z ≠ Str.ofString "turn" → z ≠ Str.ofString "word" → z ≠ Str.ofString "number" → z ≠ Str.ofString "due" → m₁ z = m z) ∧
    ∃ (k : Int) (kt : Tok), news = (pl, listOf #[.int k kt] 0) :: (421, oT) :: (C, oC) :: D ∧ 1 ≤ k ∧ k ≤ k0 + 7 * (i : Int)
/-- between the rules, for one word -/
def J4 (all : List (Addr × Obj)) (m : Str → Option Value) (_ : Nat) (m₁ : Str → Option Value) (news : List (Addr × Obj)) : Prop :=
  (∀ z, z ≠ Str.ofString "number" → z ≠ Str.ofString "due" → m₁ z = m z) ∧ news = all
theorem turn4 {h₀ h' : Heap} {L I : Addr} {oI : Obj} {all news' : List (Addr × Obj)} {m m₂ : Str → Option Value} {i : Nat} {s₁ : Shared} {tk : Nat} (F : Fr h₀ L h' m₂) (N : News h₀ L h' news') (sub : ∀ q ∈ (I, oI) :: all, q ∈ news') (ne : ∀ q ∈ all, @Ne Nat q.1 I)
    (hm : ∀ z, z ≠ Str.ofString "number" → z ≠ Str.ofString "due" → m₂ z = m z) : TurnNext h₀ L I oI (J4 all m (i + 1)) s₁ { s₁ with heap := h', toks := tk } :=
  TurnNext.intro all F N sub ne ⟨hm, rfl⟩
end

section
set_option maxHeartbeats 200000
section
variable {prog : Program} {w : World} {A : Around} {s : Shared} {env : Env} {h₀ : Heap} {Q : Flow → Shared → Prop} {E : Value → Shared → Prop} {x : Str} {body : List Stmt} {m : Str → Option Value} {news : List (Addr × Obj)}
/-- a dict of the ledger, its keys -/
theorem for_dict {d : Addr} {od : Obj} {kvs : List (Int × Value)} (hh : A.handled = none) (lo : (d == sysModules) = false) (hd : od.IsDictOf (intKind prog w) kvs) (hm : (d, od) ∈ news)
    (F : Fr h₀ env.locals s.heap m) (N : News h₀ env.locals s.heap news) (J : Nat → (Str → Option Value) → List (Addr × Obj) → Prop) (h0 : J 0 m news) (keep : ∀ i m₁ news₁, J i m₁ news₁ → (d, od) ∈ news₁)
    (turn : ∀ i k u t I oI m₁ news₁ h tk, kvs[i]? = some (k, u) → J i m₁ news₁ → (∀ p ∈ news₁, p.1 ≠ I) → I < h.objs.size → Fr h₀ env.locals h (fun y => if y = x then some (.int k t) else m₁ y) → News h₀ env.locals h ((I, oI) :: news₁) →
      wpAny (model prog w) A (execs body env) (TurnEnd h₀ env.locals I oI (J (i + 1)) { s with heap := h, toks := tk } Q) E { s with heap := h, toks := tk })
    (done : ∀ m₁ news₁ h tk, J kvs.length m₁ news₁ → Fr h₀ env.locals h m₁ → News h₀ env.locals h news₁ → Q .next { s with heap := h, toks := tk }) :
    wpAny (model prog w) A (pyIter (.ref d)) (fun it s₂ => LoopAtV prog w A h₀ env x body Q E it s₂) E s := by
  have hds : s.heap.DictOf (intKind prog w) d kvs := Heap.dictOf_iff.mpr ⟨od, (N _ hm).1, hd⟩
  obtain ⟨ep, hat⟩ := hds.dictAt
  have hne : d ≠ s.heap.objs.size := Nat.ne_of_lt hat.lt_size
  refine wpAny_pyIter_dict lo hat ?_
  refine ⟨s.heap.objs.size, [s.heap.objs.size, d], [s.heap.objs.size], kvs.length, _, _, m, news, J, rfl, Walks.dictKeys hh s.heap.objs.size d hne kvs ep, ?_, ?_, ?_, ⟨⟨_, Heap.get?_push_size _ rfl, rfl, rfl⟩, hat.push _⟩, ?_, ?_, h0, ?_, ?_⟩
  · intro hI
    rcases List.mem_cons.mp hI with e | hI
    · exact absurd F.ns.lt (e ▸ Nat.lt_irrefl _)
    · exact (N _ hm).2.1 (List.mem_singleton.mp hI).symm
  · intro b hb
    rw [List.mem_singleton.mp hb]
    exact next_is_new F
  · intro p hp hI
    exact absurd (Heap.lt_size (N p hp).1) ((List.mem_singleton.mp hI) ▸ Nat.lt_irrefl _)
  · exact F.push _
  · exact N.grown fun _ _ e => Heap.get?_push_of_some _ e
  · rintro i v m₁ news₁ s₁ own ⟨hh', tk', rfl⟩ hin hP hJ hoff hown hget hall hst F₁ N₁
    obtain ⟨k, u, hku, hkv⟩ := hP
    obtain ⟨tv, rfl⟩ := Value.isInt_shape hkv
    obtain ⟨oI, hst', _⟩ := hst.1
    have hmem := hall s.heap.objs.size (by simp) (next_is_new F) _ hst'
    refine wpAny_mono (turn i k u tv s.heap.objs.size oI m₁ news₁ hh' tk' hku hJ (fun p hp => by simpa using hoff p hp) (Heap.lt_size hst') F₁ (fun p hp => ?_)) (fun f s₂ p => ?_) fun _ _ e => e
    · rcases List.mem_cons.mp hp with rfl | hp
      · exact N₁ _ (List.mem_append_left _ hmem)
      · exact N₁ _ (List.mem_append_right _ hp)
    · have fin : TurnNext h₀ env.locals s.heap.objs.size oI (J (i + 1)) { s with heap := hh', toks := tk' } s₂ → LoopStepU h₀ env.locals [s.heap.objs.size] own (J (i + 1)) { s with heap := hh', toks := tk' } .next s₂ := by
        rintro ⟨h', tk, m₂, news₂, rfl, F₂, N₂, ne, hJ₂⟩
        refine LoopStepU.intro F₂ (fun p hp => ?_) (fun p hp => by simpa using ne p hp) hJ₂
        rcases List.mem_append.mp hp with hp | hp
        · have e2 := hget p hp
          obtain ⟨pa, po⟩ := p
          have e1 : pa = s.heap.objs.size ∨ pa = d := by simpa using hown _ hp
          dsimp only at e2
          rcases e1 with rfl | rfl
          · rw [hst'] at e2
            cases e2
            exact N₂ _ (.head _)
          · have e3 : hh'.get? pa = some od := (N₁ _ (List.mem_append_right _ (keep _ _ _ hJ))).1
            rw [e3] at e2
            cases e2
            exact N₂ _ (.tail _ (keep _ _ _ hJ₂))
        · exact N₂ _ (.tail _ hp)
      cases f with
      | ret v => exact .ret p
      | brk => exact .brk p
      | next => exact .next (fin p)
      | cont => exact .cont (fin p)
  · rintro h' tk m' news' F' N' _ hJ
    exact done m' news' h' tk hJ F' N'
end
open PySem.Spec in
theorem told_lay (a : Aut) : (toldD a).canLay0 = true ∧ (toldD a).depth ≤ 3 := by
  have h1 : ∀ rs : List (List Int), PyData.canLayAll0 (rs.map fun r => PyData.tuple (r.map .int)) = true ∧ PyData.depthAll (rs.map fun r => PyData.tuple (r.map .int)) ≤ 1 := by
    intro rs
    induction rs with
    | nil => exact ⟨rfl, Nat.zero_le _⟩
    | cons r rs ih => exact ⟨by simp [PyData.canLayAll0, PyData.canLay0, ke_canLayAll0, ih.1], by simp only [List.map_cons, PyData.depthAll, PyData.depth, ke_depthAll]; omega⟩
  have h2 : ∀ bs : List Bool, PyData.canLayAll0 (bs.map fun b => PyData.tuple (if b then [.int 0] else [])) = true ∧ PyData.depthAll (bs.map fun b => PyData.tuple (if b then [.int 0] else [])) ≤ 1 := by
    intro bs
    induction bs with
    | nil => exact ⟨rfl, Nat.zero_le _⟩
    | cons b bs ih => cases b <;> exact ⟨by simp [PyData.canLayAll0, PyData.canLay0, ih.1], by simp [PyData.depthAll, PyData.depth]; omega⟩
  constructor
  · simp [toldD, PyData.canLay0, PyData.canLayAll0, (h1 a.rows).1, (h2 a.tags).1]
  · have := (h1 a.rows).2
    have := (h2 a.tags).2
    simp only [toldD, PyData.depth, PyData.depthAll]
    omega
section
variable {prog : Program} {w : World} {A : Around} {s : Shared} {Q E : Value → Shared → Prop}
open PySem.Spec in
theorem told_same {a : Aut} {v u : Value} {as bs : List Addr} (ra : Reads s.heap v (toldD a) as) (rb : Reads s.heap u (toldD a) bs) (hu : A.units + 64 < cLine) (h : Q (.bool false) s) : wpAny (model prog w) A (compareOp .NotEq v u) Q E s := by
  have hl := told_lay a
  have hs : SeqAt.shaped (toldD a) = true := by unfold SeqAt.shaped; rw [hl.1, decide_eq_true (by omega)]; rfl
  refine ne_dataH ra rb hs hs hu ?_
  rw [SeqAt.eqv_refl _ hl.1]
  exact h
theorem hits_self {kvs : List (Int × Value)} (hn : (kvs.map (·.1)).Nodup) : KeqHits A s kvs kvs true := by
  have key : ∀ l : List (Int × Value), (∀ q ∈ l, valueAt kvs q.1 = some q.2) → KeqHits A s kvs l true := by
    intro l
    induction l with
    | nil => exact fun _ => .nil
    | cons q l ih => exact fun h => .hit (e := true) (b := true) (h q (.head _)) (SeqAt.EqAt.same _) (ih fun q hq => h q (.tail _ hq))
  refine key kvs fun q hq => ?_
  obtain ⟨i, hi⟩ := List.mem_iff_getElem?.mp hq
  exact valueAt_of_get hn hi
theorem dict_same {d : Addr} {od : Obj} {kvs : List (Int × Value)} {h₀ : Heap} {L : Addr} {news : List (Addr × Obj)} (N : News h₀ L s.heap news) (hm : (d, od) ∈ news) (lo : (d == sysModules) = false) (hd : od.IsDictOf (intKind prog w) kvs) (hu : A.units < cLine) (h : Q (.bool true) s) :
    wpAny (model prog w) A (compareOp .Eq (.ref d) (.ref d)) Q E s := by
  have hds : s.heap.DictOf (intKind prog w) d kvs := Heap.dictOf_iff.mpr ⟨od, (N _ hm).1, hd⟩
  obtain ⟨_, _, _, _, _, _, hn⟩ := hd
  exact keq_eq lo lo hds hds hu (fun _ => hits_self hn) (by simpa using h)
end
/-- between the cuts that are told -/
def J5 (all : List (Addr × Obj)) (m : Str → Option Value) (_ : Nat) (m₁ : Str → Option Value) (news : List (Addr × Obj)) : Prop :=
  (∀ z, z ≠ Str.ofString "number" → m₁ z = m z) ∧ news = all
theorem turn5 {h₀ h' : Heap} {L I : Addr} {oI : Obj} {all news' : List (Addr × Obj)} {m m₂ : Str → Option Value} {i : Nat} {s₁ : Shared} {tk : Nat} (F : Fr h₀ L h' m₂) (N : News h₀ L h' news') (sub : ∀ q ∈ (I, oI) :: all, q ∈ news') (ne : ∀ q ∈ all, @Ne Nat q.1 I)
    (hm : ∀ z, z ≠ Str.ofString "number" → m₂ z = m z) : TurnNext h₀ L I oI (J5 all m (i + 1)) s₁ { s₁ with heap := h', toks := tk } :=
  TurnNext.intro all F N sub ne ⟨hm, rfl⟩
theorem pin0u {m₁ m₀ : Str → Option Value} {x : Str} {v : Option Value} (rest : ∀ z, z ≠ x → m₁ z = m₀ z) : (fun y => if y = x then v else m₁ y) = fun y => if y = x then v else m₀ y := by
  funext z
  by_cases h1 : z = x
  · simp [h1]
  · simp only [if_neg h1]; exact rest z h1
end

section
set_option maxHeartbeats 8000000
local macro_rules | `(tactic| k_mem) => `(tactic| assumption)
local macro_rules | `(tactic| k_ne) => `(tactic| first | assumption | (apply Ne.symm; assumption))
local macro_rules | `(tactic| k_all) => `(tactic| assumption)
local macro_rules | `(tactic| walk_at "callWith ref nil nil") => `(tactic| (k_here; k_dflt (refine' callWith_F (FnAt.of (by k_asm) (by k_mem)) ?_; k_whole)))
local macro_rules | `(tactic| walk_at "FnAt") => `(tactic| (k_dflt (exact FnAt.of (by k_asm) (by k_mem))))
local macro_rules | `(tactic| walk_at "call ref") => `(tactic| k_dflt (refine' take_use (by assumption) (by assumption) (by assumption) (by assumption) (by assumption) rfl rfl (by first | omega | (dsimp only; omega) | decide) (by assumption) (by k_mem) (by repeat (first | exact sub_refl9 | assumption | refine sub_cons9 ?_)) (by first | with_reducible assumption | omega) (by first | with_reducible assumption | omega) (by first | decide | omega) (by first | decide | omega) ?_; k_whole; intro h' tk' r' t' kt' F' N' x' hpl' r0' r1'; (replace N' := N' _ (by k_upd))))
local macro_rules | `(tactic| walk_at "pyIter ref") => `(tactic| (k_here; refine Paused.go ?_))
local macro_rules | `(tactic| walk_at "call ref") => `(tactic| (k_here; (first | (with_reducible show wpAny _ _ (call (Value.ref 431) _) _ _ _) | (with_reducible show wpAny _ _ (call (Value.ref 436) _) _ _ _) | (with_reducible show wpAny _ _ (call (Value.ref 222) _) _ _ _) | (with_reducible show wpAny _ _ (call (Value.ref 415) _) _ _ _) | (with_reducible show wpAny _ _ (call (Value.ref 141) _) _ _ _) | (with_reducible show wpAny _ _ (call (Value.ref 448) _) _ _ _) | (with_reducible show wpAny _ _ (call (Value.ref 166) _) _ _ _) | (with_reducible show wpAny _ _ (call (Value.ref 173) _) _ _ _) | (with_reducible show wpAny _ _ (call (Value.ref 68) _) _ _ _)); refine Paused.go ?_))
local macro_rules | `(tactic| walk_at "subscriptTail Name Name ref int") => `(tactic| (k_here; (with_reducible show wpAny _ _ (subscriptTail (Expr.Name (Str.ofString "cuts") _) _ (Value.ref _) (Value.int _ _)) _ _ _); k_dflt (refine' item_dict ?k1 ?k2 ?_ ?k3; (case k2 => assumption); (case k1 => exact kda_dict (by k_asm) (by k_mem) (by assumption)); (case k3 => with_unfolding_all rfl); k_whole)))
local macro_rules | `(tactic| walk_at "exec For Name Name cons nil") => `(tactic| (k_here; refine Paused.go ?_))
local macro_rules | `(tactic| k_inst) => `(tactic| assumption)
local macro_rules | `(tactic| walk_at "compareOp NotEq ref ref") => `(tactic| (k_here; refine Paused.go ?_))
local macro_rules | `(tactic| walk_at "compareOp Eq ref ref") => `(tactic| (k_here; refine Paused.go ?_))
local macro_rules | `(tactic| walk_at "callWith ref cons nil") => `(tactic| (k_here; k_dflt (refine' callWith_K0 (by (refine' Frag.In.keeps ?kx (Fr.keep ?kf); (case kf => assumption); (case kx => assumption))) (by k_is) ?_; k_whole)))
local macro_rules | `(tactic| walk_at "eval ListComp") => `(tactic| (k_here; refine Paused.go ?_))
local macro_rules | `(tactic| walk_at "CompSrc") => `(tactic| (k_here; refine Paused.go ?_))
local macro_rules | `(tactic| walk_at "call type:range") => `(tactic| (k_here; (rename Fr _ _ _ _ => F'); (rename News _ _ _ _ => N'); first | (with_unfolding_all refine range1_rows F' N' ?_; intro _ _ _ _ _ _ _ _ _) | (with_unfolding_all refine range2_rows F' N' ?_; intro _ _ _ _ _ _ _ _ _)))
local macro_rules | `(tactic| walk_at "call builtin:list.append") => `(tactic| (k_here; (with_reducible show wpAny _ _ (call (Value.builtin _) [Value.ref _, _]) _ _ _); k_dflt (refine' append_K (by k_asm) (by k_asm) (by k_upd) ?_ (by (rw [PySem.sizeLine_eq, List.size_toArray]; first | with_reducible assumption | omega)); k_whole); intro h' F' N'))
local macro_rules | `(tactic| walk_at "call builtin:len") => `(tactic| (k_here; (with_reducible show wpAny _ _ (call (Value.builtin "len") [Value.ref _]) _ _ _); k_dflt (refine' Calls.call_len_list (News.isList (by k_asm) (by k_mem)) (by (rw [List.size_toArray]; first | with_reducible assumption | omega)) ?_; k_whole); (try simp only [List.size_toArray])))
local macro_rules | `(tactic| walk_at "subscriptTail Name Name ref int") => `(tactic| (k_here; (with_reducible show wpAny _ _ (subscriptTail _ _ (Value.ref _) (Value.int _ _)) _ _ _); k_dflt (refine' item_any ?k1 ?k2 ?k3 ?k4 ?_ ?k6; (case k1 => exact News.isList (by k_asm) (by k_mem)); (case k4 => assumption); (case k2 => first | with_reducible assumption | omega); (case k3 => first | with_reducible assumption | omega); (case k6 => with_unfolding_all rfl); k_whole)))
local macro_rules | `(tactic| walk_at "subscriptTail Name Constant ref int") => `(tactic| (k_here; (with_reducible show wpAny _ _ (subscriptTail _ _ (Value.ref _) (Value.int _ _)) _ _ _); k_dflt (first | ((with_reducible show wpAny _ _ (subscriptTail _ _ (Value.ref _) (Value.int 0 _)) _ _ _); refine' item2_0 (TupIn.at_ (by assumption) (Has.of (by assumption) (fun q hq => by k_mem))) ?_ (by with_unfolding_all rfl); k_whole) | ((with_reducible show wpAny _ _ (subscriptTail _ _ (Value.ref _) (Value.int 1 _)) _ _ _); refine' item2_1 (TupIn.at_ (by assumption) (Has.of (by assumption) (fun q hq => by k_mem))) ?_ (by with_unfolding_all rfl); k_whole) | ((with_reducible show wpAny _ _ (subscriptTail _ _ (Value.ref _) (Value.int 0 _)) _ _ _); refine' item3_0 (TupIn.at_ (by assumption) (Has.of (by assumption) (fun q hq => by k_mem))) ?_ (by with_unfolding_all rfl); k_whole) | ((with_reducible show wpAny _ _ (subscriptTail _ _ (Value.ref _) (Value.int 1 _)) _ _ _); refine' item3_1 (TupIn.at_ (by assumption) (Has.of (by assumption) (fun q hq => by k_mem))) ?_ (by with_unfolding_all rfl); k_whole) | ((with_reducible show wpAny _ _ (subscriptTail _ _ (Value.ref _) (Value.int 2 _)) _ _ _); refine' item3_2 (TupIn.at_ (by assumption) (Has.of (by assumption) (fun q hq => by k_mem))) ?_ (by with_unfolding_all rfl); k_whole))))
local macro_rules | `(tactic| walk_at "subscriptTail Subscript") => `(tactic| walk_at "subscriptTail Name Constant ref int")
local macro_rules | `(tactic| walk_at "setItem ref int ref") => `(tactic| (k_here; k_dflt (refine' kda_set (knd := intKind _ _) (by k_asm) (by k_asm) (by k_updF) (by assumption) (intKind_is _ _ _ _) (by (rw [PySem.sizeLine_eq]; first | with_reducible assumption | omega)) ?_; k_whole); intro h' o' F' N' hd'; (try dsimp only at N')))
theorem law_walk : ∀ {d : DefRec} {k : List (Str × Expr)}, defOf view PySem.Challenge.rw_ok0116_01.row.toRowW.name = some (d, k) →
    WalkO view [Str.ofString "CharSet", Str.ofString "Classes"] (XL view []) (kmHook hd.heap_1 [2, 3, 15, 17, 18, 20, 21, 29, 31, 32, 34, 35, 36, 38, 39, 41, 42, 43, 45, 46, 48, 49, 50, 52, 53, 55, 56, 57, 59, 60, 62, 63, 64, 67, 68, 69, 70, 71, 72, 73, 83, 85, 86, 88, 89, 90, 91, 92, 93, 94, 104, 106, 107, 109, 110, 111, 113, 114, 116, 117, 118, 120, 121, 123, 124, 125, 127, 128, 130, 131, 132, 134, 135, 137, 138, 139, 140, 141, 142, 143, 146, 148, 149, 151, 152, 153, 155, 156, 158, 159, 160, 162, 163, 165, 166, 167, 169, 170, 172, 173, 181, 183, 184, 186, 187, 188, 190, 191, 193, 194, 195, 196, 197, 198, 200, 201, 203, 204, 205, 206, 207, 208, 210, 211, 213, 214, 215, 216, 217, 218, 221, 222, 223, 224, 225, 226, 228, 229, 231, 232, 233, 234, 235, 236, 238, 239, 241, 242, 243, 244, 245, 246, 248, 249, 251, 252, 253, 255, 256, 258, 259, 260, 262, 263, 265, 266, 267, 269, 270, 272, 273, 274, 276, 277, 279, 280, 281, 283, 284, 286, 287, 288, 290, 291, 293, 294, 295, 297, 298, 300, 301, 302, 304, 305, 307, 308, 309, 311, 312, 314, 315, 316, 318, 319, 321, 322, 323, 325, 326, 328, 329, 330, 332, 333, 335, 336, 337, 338, 339, 340, 341, 351, 353, 354, 356, 357, 358, 360, 361, 363, 364, 365, 366, 367, 368, 370, 371, 373, 374, 375, 377, 378, 380, 381, 382, 384, 385, 387, 388, 389, 391, 392, 394, 395, 396, 398, 399, 401, 402, 403, 406, 407, 408, 411, 412, 413, 414, 415, 416, 417, 420, 422, 423, 425, 426, 427, 430, 431, 432, 435, 436, 437, 439, 440, 442, 443, 444, 447, 448, 449, 452, 453] (fun _ => by kernel_rfl) [421]).says PySem.Challenge.rw_ok0116_01.row.toRowW d k (fun f vs => PySem.call f vs) := by
  refine walk_lit (by rfl) ?_
  k_go0
  all_goals try k_fold
  refine' wp_gen2 ?hE9 ?_
  (case hE9 => passes_own)
  intro Q9 E9 hQ9 hE9 hP9
  iterate 8 (first | (k_unfold; (try dsimp only)) | (k_end; kc_close) | walk1 | (dsimp only; walk1) | (leave1; walk_say "STEP leave1"; (try dsimp only)))
  rename Shared => s1
  rename Below _ _ _ _ => B9
  rename Fr _ _ _ _ => F9
  rename News _ _ _ _ => N9
  rename Frag.In _ _ => X9
  rename Top _ _ _ _ _ _ => T9
  rename CodeHd _ _ _ => C9
  rename Heap.IsList _ _ _ => hl9
  rename IntsAre _ _ => hi9
  rename (¬ _ < _) => hc9
  rename (421 < _) => hsz9
  refine ⟨X9.keeps (Fr.keep F9), ?_⟩
  refine taker_ok B9 F9 X9 T9 rfl rfl (by decide) (by decide) N9 C9 hl9 hi9 (by omega) (Nat.lt_succ_of_lt hsz9) ?_
  intro h' tk' f pl kt TO c' F' N' hTO e1 e2 TS hfn
  clear F9 N9
  obtain ⟨t1, t2, t3⟩ : (∀ q ∈ TO, @Ne Nat q.1 pl) ∧ (∀ q ∈ TO, @Ne Nat q.1 421) ∧ ∀ q ∈ TO, @Ne Nat q.1 _ := ⟨fun q hq => (hTO q hq).1, fun q hq => (hTO q hq).2.1, fun q hq => (hTO q hq).2.2⟩
  obtain ⟨oc, od, fd, sl, hfm⟩ := hfn
  k_steps
  refine Paused.mk ?_
  rename IsRange _ _ _ _ _ _ _ _ => hR
  rename Fr _ _ _ _ => F9
  rename News _ _ _ _ => N9
  rename Int => r9
  rename 0 ≤ r9 => r90
  rename r9 < 4 => r91
  rename (_ < _ ∧ 421 < _ ∧ _) => lP
  obtain ⟨lP1, lP2, lP3, lP4⟩ := lP
  have tP := ktn_ltOf lP4
  have nP1 : @Ne Nat _ _ := Nat.ne_of_lt lP1
  have nP2 : @Ne Nat _ _ := Nat.ne_of_lt lP2
  have nP3 : @Ne Nat _ _ := Nat.ne_of_lt lP3
  rename (_ = Data.cell (some (Value.ref f))) => dC
  refine for_range (n := (1 + r9).toNat) rfl hR (small_r1 r90 r91) (by rw [rangeSize_nat, Int.sub_zero]) F9 N9 (J1 _ _ _ _ _ _ _)
    ⟨fun _ _ _ => rfl, [], 0, [], 1, _, TO, rfl, .nil, rfl, fun _ h => h, fun q hq => Nat.ne_of_lt (tP q hq), t1, t2, t3, by decide, by decide⟩ ?_ ?_
  · rintro i t I oI m₁ news₁ h tk hi ⟨rest, vs, vn, ps, k, kt2, D, rfl, hPs, hpl, sTO, dP, d1, d2, d3, k0, k1⟩ ne hI F₁ N₁
    rw [pin1 (a := Str.ofString "way") rfl rest] at F₁
    clear F9 N9 hR hTO
    change Fr (ghostOf s1.heap [(425, 421)]) s1.heap.objs.size _ _ at F₁
    change News (ghostOf s1.heap [(425, 421)]) s1.heap.objs.size _ _ at N₁
    have nI1 : @Ne Nat _ I := ne _ (.head _)
    have nI2 : @Ne Nat _ I := ne _ (.tail _ (.head _))
    have nI3 : @Ne Nat _ I := ne _ (.tail _ (.tail _ (.head _)))
    have nI4 : @Ne Nat _ I := ne _ (.tail _ (.tail _ (.tail _ (.head _))))
    dsimp only at nI1 nI2 nI3 nI4
    have dI : ∀ q ∈ D, @Ne Nat q.1 I := fun q hq => ne _ (.tail _ (.tail _ (.tail _ (.tail _ hq))))
    have hfD := sTO _ hfm
    have hvl : vs.length = ps.length := hPs.1
    obtain ⟨q0, q1, q2, q3, q4⟩ := om_k1 k0 k1 hi r91
    have q5 : vs.length ≤ 16777216 := om_v hvl hpl hi r91
    refine wp_gen ?_
    intro Q8 hQ8
    k_steps
    · refine Paused.mk ?_
      rename Fr _ _ _ _ => F3
      rename News _ _ _ _ => N3
      refine auto_use B9 F3 X9 T9 rfl rfl (by decide) TS ⟨_, _, _, _, hfm⟩ N3 (by k_mem) (by repeat (first | exact sTO | refine sub_cons9 ?_)) t1 q2 q4 ?_
      intro h5 tk5 ta k5 kt5 a D5 F5 N5 ap5 k50 k51 oka pa
      replace N5 := N5 _ (by k_upd)
      simp only [List.cons_append] at N5
      have e1 := app_ne dI fun q hq => ap5 q hq _ (.head _)
      have e2 := app_ne dP fun q hq => ap5 q hq _ (.tail _ (.head _))
      have e3 := app_ne d1 fun q hq => ap5 q hq _ (.tail _ (.tail _ (.head _)))
      have e4 := app_ne d2 fun q hq => ap5 q hq _ (.tail _ (.tail _ (.tail _ (.head _))))
      have e5 := app_ne d3 fun q hq => ap5 q hq _ (.tail _ (.tail _ (.tail _ (.tail _ (.head _)))))
      have sDD : ∀ q ∈ D, q ∈ D ++ D5 := fun q hq => List.mem_append_left _ hq
      have sD5 : ∀ q ∈ D5, q ∈ D ++ D5 := fun q hq => List.mem_append_right _ hq
      have hfDD := sDD _ hfD
      generalize D ++ D5 = DD at N5 e1 e2 e3 e4 e5 sDD sD5 hfDD
      clear N3 F3 ap5
      k_steps
      refine Paused.mk ?_
      rename Fr _ _ _ _ => F3
      rename News _ _ _ _ => N3
      refine auto_use B9 F3 X9 T9 rfl rfl (by decide) TS ⟨_, _, _, _, hfm⟩ N3 (by k_mem) (by repeat (first | exact fun q hq => sDD q (sTO q hq) | refine sub_cons9 ?_)) t1 (om_k5 k0 k1 hi r91 k50 k51).1 (om_k5 k0 k1 hi r91 k50 k51).2 ?_
      intro h6 tk6 tb k6 kt6 b D6 F6 N6 ap6 k60 k61 okb pb
      replace N6 := N6 _ (by k_upd)
      simp only [List.cons_append] at N6
      have f1 := app_ne e1 fun q hq => ap6 q hq _ (.head _)
      have f2 := app_ne e2 fun q hq => ap6 q hq _ (.tail _ (.head _))
      have f3 := app_ne e3 fun q hq => ap6 q hq _ (.tail _ (.tail _ (.head _)))
      have f4 := app_ne e4 fun q hq => ap6 q hq _ (.tail _ (.tail _ (.tail _ (.head _))))
      have f5 := app_ne e5 fun q hq => ap6 q hq _ (.tail _ (.tail _ (.tail _ (.tail _ (.head _)))))
      have sEE : ∀ q ∈ DD, q ∈ DD ++ D6 := fun q hq => List.mem_append_left _ hq
      have sD6 : ∀ q ∈ D6, q ∈ DD ++ D6 := fun q hq => List.mem_append_right _ hq
      generalize DD ++ D6 = EE at N6 f1 f2 f3 f4 f5 sEE sD6
      clear N3 F3 ap6
      k_steps
      rename News _ _ _ _ => N7
      rename Fr _ _ _ _ => F7
      simp only [List.push_toArray] at N7
      subst hQ8
      refine' turn0 (E := _ :: EE) (v := .ref _) (p := .search a b) F7 N7 ?hv ?sub ?hm nI1 nI2 nI3 nI4 (cons_ne ?c1 f1) (cons_ne ?c2 f2) (cons_ne ?c3 f3) (cons_ne ?c4 f4) (cons_ne ?c5 f5) hPs ?sD sTO hpl ⟨oka, okb⟩ ?k0 ?k1
      (case sub => (repeat (refine memAll (by k_mem) ?_)); (exact fun q hq => by k_mem))
      (case hv => exact ⟨_, _, _, _, rfl, fun k hk => has_tup9 hk, fun k hk => pa k (hk.sub fun q hq => .tail _ (sEE q (sD5 q hq))), fun k hk => pb k (hk.sub fun q hq => .tail _ (sD6 q hq))⟩)
      (case hm => intro z h1 h2; simp only [if_neg h1, if_neg h2])
      (case c1 => k_ne)
      (case c2 => k_ne)
      (case c3 => k_ne)
      (case c4 => k_ne)
      (case c5 => k_ne)
      (case sD => exact fun q hq => .tail _ (sEE q (sDD q hq)))
      (case k0 => exact (om_k6 k0 k1 k50 k51 k60 k61).1)
      (case k1 => exact (om_k6 k0 k1 k50 k51 k60 k61).2)
    · rename News _ _ _ _ => N7
      rename Fr _ _ _ _ => F7
      rename Int => r8
      simp only [List.push_toArray] at N7
      subst hQ8
      refine' turn0 (E := _ :: D) (v := .ref _) (p := (.behind r8)) F7 N7 ?hvb ?subb ?hmb nI1 nI2 nI3 nI4 (cons_ne ?c1b dI) (cons_ne ?c2b dP) (cons_ne ?c3b d1) (cons_ne ?c4b d2) (cons_ne ?c5b d3) hPs ?sDb sTO hpl ?okb ?k0b ?k1b
      (case subb => (repeat (refine memAll (by k_mem) ?_)); (exact fun q hq => by k_mem))
      (case hvb => exact ⟨_, _, _, rfl, fun k hk => has_tup9 hk⟩)
      (case hmb => intro z h1 h2; simp only [if_neg h1, if_neg h2])
      (case c1b => k_ne)
      (case c2b => k_ne)
      (case c3b => k_ne)
      (case c4b => k_ne)
      (case c5b => k_ne)
      (case sDb => exact fun q hq => .tail _ hq)
      (case okb => exact ⟨by assumption, by assumption⟩)
      (case k0b => exact (om_k7 k0 k1).2.2.1)
      (case k1b => exact (om_k7 k0 k1).2.2.2)
    · rename News _ _ _ _ => N7
      rename Fr _ _ _ _ => F7
      rename Int => r8
      simp only [List.push_toArray] at N7
      subst hQ8
      refine' turn0 (E := _ :: D) (v := .ref _) (p := (.ahead r8)) F7 N7 ?hvh ?subh ?hmh nI1 nI2 nI3 nI4 (cons_ne ?c1h dI) (cons_ne ?c2h dP) (cons_ne ?c3h d1) (cons_ne ?c4h d2) (cons_ne ?c5h d3) hPs ?sDh sTO hpl ?okh ?k0h ?k1h
      (case subh => (repeat (refine memAll (by k_mem) ?_)); (exact fun q hq => by k_mem))
      (case hvh => exact ⟨_, _, _, rfl, fun k hk => has_tup9 hk⟩)
      (case hmh => intro z h1 h2; simp only [if_neg h1, if_neg h2])
      (case c1h => k_ne)
      (case c2h => k_ne)
      (case c3h => k_ne)
      (case c4h => k_ne)
      (case c5h => k_ne)
      (case sDh => exact fun q hq => .tail _ hq)
      (case okh => exact ⟨by assumption, by assumption⟩)
      (case k0h => exact (om_k7 k0 k1).2.2.1)
      (case k1h => exact (om_k7 k0 k1).2.2.2)
    · rename News _ _ _ _ => N7
      rename Fr _ _ _ _ => F7
      simp only [List.push_toArray] at N7
      subst hQ8
      refine' turn0 (E := D) (v := .none) (p := .none) F7 N7 ?hvn ?subn ?hmn nI1 nI2 nI3 nI4 dI dP d1 d2 d3 hPs ?sDn sTO hpl ?okn ?k0n ?k1n
      (case subn => (repeat (refine memAll (by k_mem) ?_)); (exact fun q hq => by k_mem))
      (case hvn => exact rfl)
      (case hmn => intro z h1 h2; simp only [if_neg h1, if_neg h2])
      (case sDn => exact fun q hq => hq)
      (case okn => exact trivial)
      (case k0n => exact (om_k7 k0 k1).1)
      (case k1n => exact (om_k7 k0 k1).2.1)
  · rintro m₁ news₁ h tk ⟨rest, vs, vn, ps, k, kt2, D, rfl, hPs, hpl, sTO, dP, d1, d2, d3, k0, k1⟩ F₁ N₁
    rw [unpin (m₁ := m₁) (Str.ofString "number"), pin1 (a := Str.ofString "way") rfl rest] at F₁
    change Fr (ghostOf s1.heap [(425, 421)]) s1.heap.objs.size _ _ at F₁
    change News (ghostOf s1.heap [(425, 421)]) s1.heap.objs.size _ _ at N₁
    clear F9 N9 hR hTO
    have hvl : vs.length = ps.length := hPs.1
    have hfD := sTO _ hfm
    dsimp only
    k_steps
    refine Paused.mk ?_
    rename IsRange _ _ _ _ _ _ _ _ => hR
    rename Fr _ _ _ _ => F9
    rename News _ _ _ _ => N9
    rename (Obj.IsDictOf (intKind _ _) _ _) => hd9
    rename ((_ == sysModules) = false) => lo9
    rename (_ < _ ∧ pl < _ ∧ _) => lD
    obtain ⟨lD1, lD2, lD3, lD4, lD5⟩ := lD
    have tD := ktn_ltOf lD5
    have nD1 : @Ne Nat _ _ := Nat.ne_of_lt lD1
    have nD2 : @Ne Nat _ _ := Nat.ne_of_lt lD2
    have nD3 : @Ne Nat _ _ := Nat.ne_of_lt lD3
    have nD4 : @Ne Nat _ _ := Nat.ne_of_lt lD4
    refine for_range (n := vs.length) rfl hR (small_len (om_vn hvl hpl r91)) (by rw [rangeSize_nat]; congr 1) F9 (news_rot N9) (J2 _ _ _ _ _ _ _ _ _ ps _)
      ⟨fun _ _ _ => rfl, _, [], _, rfl, hd9, ⟨fun kv h => (nomatch h), fun j p hj => absurd hj (Nat.not_lt_zero _)⟩, Nat.le_refl 0, fun _ h => h, cons_ne nD1 fun q hq => Nat.ne_of_lt (tD q hq), cons_ne (Ne.symm nP1) d1, cons_ne (Ne.symm nP2) d2, cons_ne (Ne.symm nP3) d3⟩ ?_ ?_
    · rintro i t I oI m₂ news₁ h₂ tk₂ hi ⟨rest2, od, kvs, D2, rfl, hdd, hCu, hkl, sD2, c1, c2, c3, c4⟩ ne hI F₂ N₂
      rw [pin1 (a := Str.ofString "plan") rfl rest2, om_zi i] at F₂
      change Fr (ghostOf s1.heap [(425, 421)]) s1.heap.objs.size _ _ at F₂
      change News (ghostOf s1.heap [(425, 421)]) s1.heap.objs.size _ _ at N₂
      clear F9 N9 hR
      have nI1 : @Ne Nat _ I := ne _ (.head _)
      have nI2 : @Ne Nat _ I := ne _ (.tail _ (.head _))
      have nI3 : @Ne Nat _ I := ne _ (.tail _ (.tail _ (.head _)))
      have nI4 : @Ne Nat _ I := ne _ (.tail _ (.tail _ (.tail _ (.head _))))
      dsimp only at nI1 nI2 nI3 nI4
      have dI : ∀ q ∈ D2, @Ne Nat q.1 I := fun q hq => ne _ (.tail _ (.tail _ (.tail _ (.tail _ hq))))
      obtain ⟨z1, z2, z3, z4⟩ := om_i hi hvl hpl r91
      have z5 : kvs.length ≤ 16777216 := om_kv hkl hi hvl hpl r91
      obtain ⟨p, hp⟩ : ∃ p, ps[i]? = some p := ⟨_, List.getElem?_eq_getElem z3⟩
      obtain ⟨okp, v, hv, hPv⟩ := hPs.2 i p hp
      have hPI := hPv.mono (fun q hq => sD2 q (.tail _ hq))
      have hPD := sD2 _ (.head _)
      have hv2 : vs[((i : Nat) : Int).toNat]? = some v := by simpa using hv
      refine wp_gen ?_
      intro Q8 hQ8
      cases p with
      | none =>
        cases hPI
        k_steps
        rename News _ _ _ _ => N7
        rename Fr _ _ _ _ => F7
        subst hQ8
        refine' turn2 (E := D2) F7 N7 hdd (hCu.skip hp) (Nat.le_succ_of_le hkl) ?sub2n ?hm2n nI1 nI2 nI3 nI4 dI c1 c2 c3 c4 sD2
        (case sub2n => (repeat (refine memAll (by k_mem) ?_)); (exact fun q hq => by k_mem))
        (case hm2n => intro z h1 h2; simp only [if_neg h1, if_neg h2])
      | behind n =>
        obtain ⟨t9, q1, q2, rfl, hT⟩ := hPI
        k_steps
        rename News _ _ _ _ => N7
        rename Fr _ _ _ _ => F7
        rename Obj.IsDictOf (intKind _ _) _ _ => hd7
        subst hQ8
        refine' turn2 (E := (_, instObj 92 _) :: (_, dictOf _ _) :: D2) F7 N7 hd7 (hCu.put hp (fun q hq => .tail _ (.tail _ hq)) ?hvb) ?lenb ?subb ?hmb nI1 nI2 nI3 nI4 (cons_ne ?u1b (cons_ne ?v1b dI)) (cons_ne ?u2b (cons_ne ?v2b c1)) (cons_ne ?u3b (cons_ne ?v3b c2)) (cons_ne ?u4b (cons_ne ?v4b c3)) (cons_ne ?u5b (cons_ne ?v5b c4)) (fun q hq => .tail _ (.tail _ (sD2 q hq)))
        (case subb => (repeat (refine memAll (by k_mem) ?_)); (exact fun q hq => by k_mem))
        (case hvb => exact fun k hk => ⟨_, _, rfl, ⟨_, _, _, _, _, _, _, _, _, _, _, has_inst hk (.head _) (.tail _ (.head _))⟩⟩)
        (case lenb => exact Nat.le_trans (stored_length_le _ _ _) (Nat.succ_le_succ hkl))
        (case hmb => intro z h1 h2; simp only [if_neg h1, if_neg h2])
        (case u1b => k_ne)
        (case u2b => k_ne)
        (case u3b => k_ne)
        (case u4b => k_ne)
        (case u5b => k_ne)
        (case v1b => k_ne)
        (case v2b => k_ne)
        (case v3b => k_ne)
        (case v4b => k_ne)
        (case v5b => k_ne)
      | ahead n =>
        obtain ⟨t9, q1, q2, rfl, hT⟩ := hPI
        k_steps
        rename News _ _ _ _ => N7
        rename Fr _ _ _ _ => F7
        rename Obj.IsDictOf (intKind _ _) _ _ => hd7
        subst hQ8
        refine' turn2 (E := (_, instObj 92 _) :: (_, dictOf _ _) :: D2) F7 N7 hd7 (hCu.put hp (fun q hq => .tail _ (.tail _ hq)) ?hvh) ?lenh ?subh ?hmh nI1 nI2 nI3 nI4 (cons_ne ?u1h (cons_ne ?v1h dI)) (cons_ne ?u2h (cons_ne ?v2h c1)) (cons_ne ?u3h (cons_ne ?v3h c2)) (cons_ne ?u4h (cons_ne ?v4h c3)) (cons_ne ?u5h (cons_ne ?v5h c4)) (fun q hq => .tail _ (.tail _ (sD2 q hq)))
        (case subh => (repeat (refine memAll (by k_mem) ?_)); (exact fun q hq => by k_mem))
        (case hvh => exact fun k hk => ⟨_, _, rfl, ⟨_, _, _, _, _, _, _, _, _, _, _, has_inst hk (.head _) (.tail _ (.head _))⟩⟩)
        (case lenh => exact Nat.le_trans (stored_length_le _ _ _) (Nat.succ_le_succ hkl))
        (case hmh => intro z h1 h2; simp only [if_neg h1, if_neg h2])
        (case u1h => k_ne)
        (case u2h => k_ne)
        (case u3h => k_ne)
        (case u4h => k_ne)
        (case u5h => k_ne)
        (case v1h => k_ne)
        (case v2h => k_ne)
        (case v3h => k_ne)
        (case v4h => k_ne)
        (case v5h => k_ne)
      | search a b =>
        obtain ⟨t9, q1, ta, tb, rfl, hT, hA, hB⟩ := hPI
        obtain ⟨oka, okb⟩ := okp
        k_steps
        refine Paused.mk ?_
        rename Fr _ _ _ _ => F3
        rename News _ _ _ _ => N3
        refine dfa_use B9 F3 X9 T9 rfl rfl (by decide) N3 (hA _ (Has.of N3 (fun q hq => by k_mem))) oka ?_
        intro h5 tk5 xa D5 ks5 F5 N5 ap5 pa
        simp only [List.cons_append] at N5
        have e1 := app_ne dI fun q hq => ap5 q hq _ (.head _)
        have e2 := app_ne c1 fun q hq => ap5 q hq _ (.tail _ (.head _))
        have e3 := app_ne c2 fun q hq => ap5 q hq _ (.tail _ (.tail _ (.head _)))
        have e4 := app_ne c3 fun q hq => ap5 q hq _ (.tail _ (.tail _ (.tail _ (.head _))))
        have e5 := app_ne c4 fun q hq => ap5 q hq _ (.tail _ (.tail _ (.tail _ (.tail _ (.head _)))))
        have sDD : ∀ q ∈ D2, q ∈ D2 ++ D5 := fun q hq => List.mem_append_left _ hq
        have sD5 : ∀ q ∈ D5, q ∈ D2 ++ D5 := fun q hq => List.mem_append_right _ hq
        have hT2 := hT.mono sDD
        have hB2 := hB.mono sDD
        generalize D2 ++ D5 = DD at N5 e1 e2 e3 e4 e5 sDD sD5 hT2 hB2
        clear N3 F3 ap5 hT hB hA
        k_steps
        refine Paused.mk ?_
        rename Fr _ _ _ _ => F3
        rename News _ _ _ _ => N3
        refine dfa_use B9 F3 X9 T9 rfl rfl (by decide) N3 (hB2 _ (Has.of N3 (fun q hq => by k_mem))) okb ?_
        intro h6 tk6 xb D6 ks6 F6 N6 ap6 pb
        simp only [List.cons_append] at N6
        have f1 := app_ne e1 fun q hq => ap6 q hq _ (.head _)
        have f2 := app_ne e2 fun q hq => ap6 q hq _ (.tail _ (.head _))
        have f3 := app_ne e3 fun q hq => ap6 q hq _ (.tail _ (.tail _ (.head _)))
        have f4 := app_ne e4 fun q hq => ap6 q hq _ (.tail _ (.tail _ (.tail _ (.head _))))
        have f5 := app_ne e5 fun q hq => ap6 q hq _ (.tail _ (.tail _ (.tail _ (.tail _ (.head _)))))
        have sEE : ∀ q ∈ DD, q ∈ DD ++ D6 := fun q hq => List.mem_append_left _ hq
        have sD6 : ∀ q ∈ D6, q ∈ DD ++ D6 := fun q hq => List.mem_append_right _ hq
        generalize DD ++ D6 = EE at N6 f1 f2 f3 f4 f5 sEE sD6
        clear N3 F3 ap6
        k_steps
        rename News _ _ _ _ => N7
        rename Fr _ _ _ _ => F7
        rename Obj.IsDictOf (intKind _ _) _ _ => hd7
        subst hQ8
        refine' turn2 (E := (_, instObj 92 _) :: (_, dictOf _ _) :: EE) F7 N7 hd7 (hCu.put hp (fun q hq => .tail _ (.tail _ (sEE q (sDD q hq)))) ?hvs) ?lens ?subs ?hms nI1 nI2 nI3 nI4 (cons_ne ?u1s (cons_ne ?v1s f1)) (cons_ne ?u2s (cons_ne ?v2s f2)) (cons_ne ?u3s (cons_ne ?v3s f3)) (cons_ne ?u4s (cons_ne ?v4s f4)) (cons_ne ?u5s (cons_ne ?v5s f5)) (fun q hq => .tail _ (.tail _ (sEE q (sDD q (sD2 q hq)))))
        (case subs => (repeat (refine memAll (by k_mem) ?_)); (exact fun q hq => by k_mem))
        (case hvs => exact fun k hk => ⟨_, _, _, rfl, ⟨_, _, _, _, _, _, _, _, _, _, _, has_inst hk (.head _) (.tail _ (.head _))⟩, pa k (hk.sub fun q hq => .tail _ (.tail _ (sEE q (sD5 q hq)))), pb k (hk.sub fun q hq => .tail _ (.tail _ (sD6 q hq)))⟩)
        (case lens => exact Nat.le_trans (stored_length_le _ _ _) (Nat.succ_le_succ hkl))
        (case hms => intro z h1 h2; simp only [if_neg h1, if_neg h2])
        (case u1s => k_ne)
        (case u2s => k_ne)
        (case u3s => k_ne)
        (case u4s => k_ne)
        (case u5s => k_ne)
        (case v1s => k_ne)
        (case v2s => k_ne)
        (case v3s => k_ne)
        (case v4s => k_ne)
        (case v5s => k_ne)
    · rintro m₃ news₁ h₃ tk₃ ⟨rest3, od, kvs, D3, rfl, hdd, hCu, hkl, sD3, c1, c2, c3, c4⟩ F₃ N₃
      rw [unpin (m₁ := m₃) (Str.ofString "number"), pin1 (a := Str.ofString "plan") rfl rest3] at F₃
      change Fr (ghostOf s1.heap [(425, 421)]) s1.heap.objs.size _ _ at F₃
      change News (ghostOf s1.heap [(425, 421)]) s1.heap.objs.size _ _ at N₃
      clear F9 N9 hR
      have hPD := sD3 _ (.head _)
      have hPs3 : PlansAt D3 vs ps := ⟨hPs.1, fun j p hj => let ⟨o, v, e, x⟩ := hPs.2 j p hj; ⟨o, v, e, x.mono fun q hq => sD3 q (.tail _ hq)⟩⟩
      have hfD3 := sD3 _ (.tail _ hfD)
      dsimp only
      k_steps
      refine Paused.mk ?_
      rename Fr _ _ _ _ => F4
      rename News _ _ _ _ => N4
      refine of_use B9 F4 X9 T9 rfl rfl (by decide) (by decide) N4 (n := 97) (by rfl) (by rfl) (by decide) (by decide) ?_
      intro h5 tk5 x5 D5 ks5 F5 N5 ap5 p5
      simp only [List.cons_append] at N5
      have e1 := app_ne c1 fun q hq => ap5 q hq _ (.head _)
      have e2 := app_ne c2 fun q hq => ap5 q hq _ (.tail _ (.head _))
      have e3 := app_ne c3 fun q hq => ap5 q hq _ (.tail _ (.tail _ (.head _)))
      have e4 := app_ne c4 fun q hq => ap5 q hq _ (.tail _ (.tail _ (.tail _ (.head _))))
      have sDD : ∀ q ∈ D3, q ∈ D3 ++ D5 := fun q hq => List.mem_append_left _ hq
      have sD5 : ∀ q ∈ D5, q ∈ D3 ++ D5 := fun q hq => List.mem_append_right _ hq
      generalize D3 ++ D5 = D4 at N5 e1 e2 e3 e4 sDD sD5
      clear N4 F4 ap5
      k_steps
      refine Paused.mk ?_
      rename Fr _ _ _ _ => F4
      rename News _ _ _ _ => N4
      refine of_use B9 F4 X9 T9 rfl rfl (by decide) (by decide) N4 (n := 98) (by rfl) (by rfl) (by decide) (by decide) ?_
      intro h6 tk6 x6 D6 ks6 F6 N6 ap6 p6
      simp only [List.cons_append] at N6
      have g1 := app_ne e1 fun q hq => ap6 q hq _ (.head _)
      have g2 := app_ne e2 fun q hq => ap6 q hq _ (.tail _ (.head _))
      have g3 := app_ne e3 fun q hq => ap6 q hq _ (.tail _ (.tail _ (.head _)))
      have g4 := app_ne e4 fun q hq => ap6 q hq _ (.tail _ (.tail _ (.tail _ (.head _))))
      have sEE : ∀ q ∈ D4, q ∈ D4 ++ D6 := fun q hq => List.mem_append_left _ hq
      have sD6 : ∀ q ∈ D6, q ∈ D4 ++ D6 := fun q hq => List.mem_append_right _ hq
      generalize D4 ++ D6 = DE at N6 g1 g2 g3 g4 sEE sD6
      clear N4 F4 ap6
      k_steps
      refine Paused.mk ?_
      rename Fr _ _ _ _ => F4
      rename News _ _ _ _ => N4
      refine classes_use B9 F4 X9 T9 rfl rfl (by decide) (by decide) N4 (News.isList N4 (.head _)) (p5 _ (Has.of N4 (fun q hq => by have := sEE q (sD5 q hq); k_mem))) (p6 _ (Has.of N4 (fun q hq => by have := sD6 q hq; k_mem))) ?_
      intro h7 tk7 x7 ks7 F7 N7
      clear N4 F4
      k_steps
      refine Paused.mk ?_
      rename Fr _ _ _ _ => F4
      rename News _ _ _ _ => N4
      rename (Obj.IsDictOf (intKind _ _) _ []) => hd4
      rename ((_ == sysModules) = false) => lo4
      refine tables_use B9 F4 X9 T9 rfl rfl (by decide) (by decide) N4 (News.isList N4 (.tail _ (.head _))) (kda_dict N4 (.head _) hd4) lo4 ?_
      intro h8 tk8 x8 er8 D8 ks8 F8 N8 ap8 p8
      simp only [List.cons_append] at N8
      have k2 := app_ne g2 fun q hq => ap8 q hq _ (.tail _ (.tail _ (.tail _ (.tail _ (.tail _ (.tail _ (.head _)))))))
      have k3 := app_ne g3 fun q hq => ap8 q hq _ (.tail _ (.tail _ (.tail _ (.tail _ (.tail _ (.tail _ (.tail _ (.head _))))))))
      have k4 := app_ne g4 fun q hq => ap8 q hq _ (.tail _ (.tail _ (.tail _ (.tail _ (.tail _ (.tail _ (.tail _ (.tail _ (.head _)))))))))
      have sFF : ∀ q ∈ DE, q ∈ DE ++ D8 := fun q hq => List.mem_append_left _ hq
      have sD8 : ∀ q ∈ D8, q ∈ DE ++ D8 := fun q hq => List.mem_append_right _ hq
      generalize DE ++ D8 = DF at N8 k2 k3 k4 sFF sD8
      clear N4 F4 ap8
      have sAll : ∀ q ∈ D3, q ∈ DF := fun q hq => sFF q (sEE q (sDD q hq))
      have N8b := news_five N8
      have hS := Stand.mk (prog := Challenge.rw_ok0116_01.row.prog) (D := (_, od) :: DF) (hPs3.mono fun q hq => .tail _ (sAll q hq)) (.tail _ (sAll _ hPD)) (.tail _ (sAll _ hfD3)) (hvl ▸ hCu.mono fun q hq => .tail _ (sAll q hq)) (.head _) hdd lo9 (fun k hk => p8 k (hk.sub fun q hq => .tail _ (sD8 q hq))) (cons_ne (Ne.symm nD2) k2) (cons_ne (Ne.symm nD3) k3) (cons_ne (Ne.symm nD4) k4) (TO := TO) (fun q hq => .tail _ (sAll q (sD3 q (.tail _ (sTO q hq)))))
      generalize (_, od) :: DF = DG at N8b hS
      obtain ⟨sPl, sPm, sFm, sCu, sCm, sDi, sLo, sTab, sn1, sn2, sn3, sTO9⟩ := id hS
      clear k2 k3 k4 N8 hd4 lo4 p8 sAll sFF sD8 hPD hPs3 hfD3 c1 c2 c3 c4 e1 e2 e3 e4 g1 g2 g3 g4 sEE sDD sD5 sD6 p5 p6
      k_steps
      refine Paused.mk ?_
      rename IsRange _ _ _ _ _ _ _ _ => hR
      rename Fr _ _ _ _ => F9
      rename News _ _ _ _ => N9
      refine for_range (n := 4) rfl hR (small_le (by decide) (by decide)) (by rfl) F9 N9 (J3 _ _ _ _ _ _ _)
        ⟨fun _ _ _ _ _ => rfl, _, _, rfl, k0, Int.le_add_of_nonneg_right (Int.le_refl 0)⟩ ?_ ?_
      · rintro i t I oI m₄ news₁ h₄ tk₄ hi ⟨rest4, k4, kt4, rfl, k40, k41⟩ ne hI F₄ N₄
        rw [pin3u rest4, om_zi i] at F₄
        change Fr (ghostOf s1.heap [(425, 421)]) s1.heap.objs.size _ _ at F₄
        change News (ghostOf s1.heap [(425, 421)]) s1.heap.objs.size _ _ at N₄
        clear F9 N9 hR
        have nI1 : @Ne Nat _ I := ne _ (.head _)
        have nI2 : @Ne Nat _ I := ne _ (.tail _ (.head _))
        have nI3 : @Ne Nat _ I := ne _ (.tail _ (.tail _ (.head _)))
        dsimp only at nI1 nI2 nI3
        have dI : ∀ q ∈ DG, @Ne Nat q.1 I := fun q hq => ne _ (.tail _ (.tail _ (.tail _ hq)))
        obtain ⟨v1, v2⟩ := om_k4 k40 k41 hi k1 r91 r90
        refine wp_gen ?_
        intro Q8 hQ8
        k_steps
        refine Paused.mk ?_
        rename IsRange _ _ _ _ _ _ _ _ => hR
        rename Fr _ _ _ _ => F7
        rename News _ _ _ _ => N7
        rename Int => r7
        rename 0 ≤ r7 => r70
        rename r7 < 7 => r71
        refine LCg.CompSrc.range rfl F7 N7 hR (small_r7 r70 r71) (rangeSize_nat _ _) (by rw [PySem.sizeLine_eq]; exact om_s7 r71) ?_
        intro g7
        refine comp_rest (fun j zs news => zs.length = j ∧ ∃ (k2 : Int) (kt2 : Tok) (ns : List Int), news = (I, oI) :: (pl, listOf #[.int k2 kt2] 0) :: (421, _) :: (s1.heap.objs.size + 1, _) :: DG ∧ k4 + 1 ≤ k2 ∧ k2 ≤ k4 + 1 + (j : Int) ∧
          IntsAre zs ns ∧ ∀ v ∈ ns, 0 ≤ v ∧ v < 3) ⟨rfl, k4 + 1, _, [], rfl, Int.le_refl _, Int.le_add_of_nonneg_right (Int.le_refl 0), .nil, fun v hv => nomatch hv⟩ ?_ ?_
        · rintro j v I2 oI2 C2 oC2 D2 m₅ zs news h2 tk2 E2 hj ⟨tv2, rfl⟩ ⟨hzs, k2, kt2, ns, rfl, hk20, hk21, hzi, hns⟩ hC2 hx2 F₅ N₅ off2 ne2
          obtain ⟨w1, w2⟩ := om_kw hk20 hk21 hj r71 k40 k41 hi k1 r91 r90
          obtain ⟨p4, p5, p6⟩ := off2.mem (pl, listOf #[.int k2 kt2] 0) (.tail _ (.head _))
          have p4 : @Ne Nat pl I2 := p4
          have p5 : @Ne Nat pl C2 := p5
          have p6 : @Ne Nat pl D2 := p6
          k_steps
          rename Int => r8
          rename 0 ≤ r8 => r80
          rename r8 < 3 => r81
          rename News _ _ _ _ => N6
          refine LCg.CompEnd.intro (by assumption) N6 _ (fun q hq => hq) (off3_addr off2 rfl) trivial ⟨by rw [List.length_append, hzs]; rfl, _, _, ns ++ [r8], rfl, (om_kz hk20 hk21).1, (om_kz hk20 hk21).2, IntsAre.append hzi (.cons _ _ .nil), fun v hv => ?_⟩
          rcases List.mem_append.mp hv with hv | hv
          · exact hns v hv
          · rw [List.mem_singleton.mp hv]; exact ⟨r80, r81⟩
        · rintro zs news ⟨hzs, k2, kt2, ns, rfl, hk20, hk21, hzi, hns⟩
          intro D2 h2 tk2 F₅ N₅ off2
          have hzl := hzi.length
          have hsm : ns.length ≤ 6 := om_n6 hzl hzs r71
          k_steps
          refine Paused.mk ?_
          rename IsRange _ _ _ _ _ _ _ _ => hR4
          rename Fr _ _ _ _ => F9
          rename News _ _ _ _ => N9
          refine for_range (n := vs.length) rfl hR4 (small_len (om_vn hvl hpl r91)) (by rw [rangeSize_nat]; congr 1) F9 N9 (J4 _ _) ⟨fun _ _ _ => rfl, rfl⟩ ?_ ?_
          · rintro j t2 I2 oI2 m₅ news₁ h₅ tk₅ hj ⟨rest5, rfl⟩ ne2 hI2 F₆ N₆
            rw [pin1u rest5, om_zi j] at F₆
            change Fr (ghostOf s1.heap [(425, 421)]) s1.heap.objs.size _ _ at F₆
            change News (ghostOf s1.heap [(425, 421)]) s1.heap.objs.size _ _ at N₆
            clear F9 N9 hR4
            obtain ⟨y1, y2, hjp, y4⟩ := om_i hj hvl hpl r91
            obtain ⟨p, hp⟩ : ∃ p, ps[j]? = some p := ⟨_, List.getElem?_eq_getElem hjp⟩
            obtain ⟨okp, v, hv, hPv⟩ := sPl.2 j p hp
            have hv2 : vs[((j : Nat) : Int).toNat]? = some v := by simpa using hv
            refine wp_gen ?_
            intro Q7 hQ7
            k_steps
            refine Paused.mk ?_
            rename Fr _ _ _ _ => F3
            rename News _ _ _ _ => N3
            refine due_ok B9 F3 X9 T9 rfl rfl (by decide) (hPv.at_ (Has.of N3 (fun q hq => by k_mem))) okp ⟨⟨zs, News.isList N3 (.tail _ (.head _)), hzi⟩, hsm, hns⟩ ?_
            intro h5 tk5 r5 t5 ks5 e5
            have F5 := Fr.keeps F3 ks5
            have N5 := News.grown N3 ks5
            subst e5
            clear F3 N3
            k_steps
            refine Paused.mk ?_
            rename Fr _ _ _ _ => F3
            rename News _ _ _ _ => N3
            refine cutlen_ok B9 F3 X9 T9 rfl rfl (by decide) ((sTab _ (Has.of N3 (fun q hq => by k_mem))).lex N3 (by k_mem) sDi sLo) (sCu.2 j p hjp hp _ (Has.of N3 (fun q hq => by k_mem))) okp ⟨⟨zs, News.isList N3 (.head _), hzi⟩, hsm, hns⟩ ?_
            intro h6 tk6 r6 t6 ks6 e6
            have F6 := Fr.keeps F3 ks6
            have N6 := News.grown N3 ks6
            subst e6
            clear F3 N3
            iterate 5 (first | (k_unfold; (try dsimp only)) | (k_end; kc_close) | walk1 | (dsimp only; walk1) | (leave1; walk_say "STEP leave1"; (try dsimp only)))
            (rename (Plan.due _ _ ≠ Plan.due _ _) => hne6; exact absurd rfl hne6)
            cases p with
            | none =>
              cases hPv
              k_steps
              rename News _ _ _ _ => N7
              rename Fr _ _ _ _ => F7
              subst hQ7
              refine turn4 F7 N7 ?sub4n ne2 ?hm4n
              (case sub4n => (repeat (refine memAll (by k_mem) ?_)); (exact fun q hq => by k_mem))
              (case hm4n => intro z h1 h2; simp only [if_neg h1, if_neg h2])
            | behind n =>
              obtain ⟨t9, q1, q2, rfl, hT⟩ := hPv
              k_steps
              rename News _ _ _ _ => N7
              rename Fr _ _ _ _ => F7
              subst hQ7
              refine turn4 F7 N7 ?sub4b ne2 ?hm4b
              (case sub4b => (repeat (refine memAll (by k_mem) ?_)); (exact fun q hq => by k_mem))
              (case hm4b => intro z h1 h2; simp only [if_neg h1, if_neg h2])
            | ahead n =>
              obtain ⟨t9, q1, q2, rfl, hT⟩ := hPv
              k_steps
              rename News _ _ _ _ => N7
              rename Fr _ _ _ _ => F7
              subst hQ7
              refine turn4 F7 N7 ?sub4h ne2 ?hm4h
              (case sub4h => (repeat (refine memAll (by k_mem) ?_)); (exact fun q hq => by k_mem))
              (case hm4h => intro z h1 h2; simp only [if_neg h1, if_neg h2])
            | search a b =>
              obtain ⟨t9, q1, ta, tb, rfl, hT, hA, hB⟩ := hPv
              obtain ⟨oka, okb⟩ := okp
              rename News _ _ _ _ => N7
              obtain ⟨xc, xf, xg, hva, _⟩ := sCu.2 j _ hjp hp _ (Has.of N7 (fun q hq => by k_mem))
              k_steps
              refine Paused.mk ?_
              rename Fr _ _ _ _ => F3
              rename News _ _ _ _ => N3
              obtain ⟨xd, yf, yg, hvb, hCt, hDf, hDb⟩ := sCu.2 j _ hjp hp _ (Has.of N3 (fun q hq => by k_mem))
              obtain rfl : xd = xc := by
                have e := hvb.symm.trans hva
                injection e with e
                injection e
              refine search_ok B9 F3 X9 T9 rfl rfl (by decide) hCt hDf hDb oka okb ⟨⟨zs, News.isList N3 (.head _), hzi⟩, hsm, hns⟩ ?_
              intro h7 tk7 r7 t7 ks7 e7
              have F7 := Fr.keeps F3 ks7
              have N7 := News.grown N3 ks7
              subst e7
              clear F3 N3 hCt hDf hDb
              iterate 5 (first | (k_unfold; (try dsimp only)) | (k_end; kc_close) | walk1 | (dsimp only; walk1) | (leave1; walk_say "STEP leave1"; (try dsimp only)))
              (rename (cutOf _ _ _ _ ≠ _) => hne7; exact absurd rfl hne7)
              k_steps
              rename News _ _ _ _ => N7
              rename Fr _ _ _ _ => F7
              subst hQ7
              refine turn4 F7 N7 ?sub4s ne2 ?hm4s
              (case sub4s => (repeat (refine memAll (by k_mem) ?_)); (exact fun q hq => by k_mem))
              (case hm4s => intro z h1 h2; simp only [if_neg h1, if_neg h2])
          · rintro m₅ news₁ h₅ tk₅ ⟨rest5, rfl⟩ F₆ N₆
            change Fr (ghostOf s1.heap [(425, 421)]) s1.heap.objs.size _ _ at F₆
            change News (ghostOf s1.heap [(425, 421)]) s1.heap.objs.size _ _ at N₆
            clear F9 N9 hR4
            dsimp only
            k_steps
            rename News _ _ _ _ => N7
            rename Fr _ _ _ _ => F7
            subst hQ8
            refine TurnNext.intro ((pl, listOf #[.int k2 kt2] 0) :: (421, _) :: (s1.heap.objs.size + 1, _) :: DG) F7 N7 ?sub5 (cons_ne nI1 (cons_ne nI2 (cons_ne nI3 dI))) ⟨fun z h1 h2 h3 h4 => ?_, k2, kt2, rfl, (om_kx k40 k41 hk20 hk21 r70 r71).1, (om_kx k40 k41 hk20 hk21 r70 r71).2⟩
            (case sub5 => (repeat (refine memAll (by k_mem) ?_)); (exact fun q hq => by k_mem))
            rw [rest5 z h3 h4]
            simp only [if_neg h1, if_neg h2, if_neg h3, if_neg h4]
      · rintro m₆ news₁ h₆ tk₆ ⟨rest6, k6, kt6, rfl, k60, k61⟩ F₆ N₆
        rw [unpin (m₁ := m₆) (Str.ofString "turn"), pin3u rest6] at F₆
        change Fr (ghostOf s1.heap [(425, 421)]) s1.heap.objs.size _ _ at F₆
        change News (ghostOf s1.heap [(425, 421)]) s1.heap.objs.size _ _ at N₆
        clear F9 N9 hR
        dsimp only
        k_steps
        refine Paused.mk ?_
        refine For_invV (ghostOf s1.heap [(425, 421)]) (by rfl) (by rfl) ?_
        k_steps
        refine Paused.mk ?_
        rename Fr _ _ _ _ => F9
        rename News _ _ _ _ => N9
        have hnd : (kvs.map (·.1)).Nodup := let ⟨_, _, _, _, _, _, hn⟩ := id sDi; hn
        refine for_dict rfl sLo sDi (.tail _ (.tail _ (.tail _ sCm))) F9 N9 (J5 _ _) ⟨fun _ _ => rfl, rfl⟩ (fun _ _ _ hJ => by rw [hJ.2]; exact .tail _ (.tail _ (.tail _ sCm))) ?_ ?_
        · rintro i k7 u7 t7 I oI m₇ news₁ h₇ tk₇ hku ⟨rest7, rfl⟩ ne hI F₇ N₇
          rw [pin0u rest7] at F₇
          change Fr (ghostOf s1.heap [(425, 421)]) s1.heap.objs.size _ _ at F₇
          change News (ghostOf s1.heap [(425, 421)]) s1.heap.objs.size _ _ at N₇
          clear F9 N9
          have hva0 := valueAt_of_get hnd hku
          obtain ⟨kl, kh⟩ := sCu.1 _ (List.mem_of_getElem? hku)
          dsimp only at kl kh
          obtain ⟨j, rfl⟩ : ∃ j : Nat, k7 = (j : Int) := ⟨k7.toNat, (Int.toNat_of_nonneg kl).symm⟩
          have hjp : j < ps.length := Int.ofNat_lt.mp kh
          obtain ⟨y1, y2, y3, y4⟩ := om_j hjp hvl hpl r91
          obtain ⟨p, hp⟩ : ∃ p, ps[j]? = some p := ⟨_, List.getElem?_eq_getElem hjp⟩
          obtain ⟨okp, v, hv, hPv⟩ := sPl.2 j p hp
          have hv2 : vs[((j : Nat) : Int).toNat]? = some v := by simpa using hv
          have hCo := sCu.2 j p hjp hp _ (Has.of N₇ (fun q hq => by k_mem))
          refine wp_gen ?_
          intro Q8 hQ8
          cases p with
          | none =>
            exfalso
            rw [show valueAt kvs (j : Int) = none from hCo] at hva0
            cases hva0
          | behind n =>
            obtain ⟨xc, tx, hva, hCt⟩ := hCo
            clear hva0
            obtain ⟨dx, n9, y0, y1, y2, y3, y4, w1, w2, w3, w4, I9⟩ := hCt.at_
            k_steps
            rename News _ _ _ _ => N7
            rename Fr _ _ _ _ => F7
            subst hQ8
            refine turn5 F7 N7 ?sub6b ne ?hm6b
            (case sub6b => (repeat (refine memAll (by k_mem) ?_)); (exact fun q hq => by k_mem))
            (case hm6b => intro z h1; simp only [if_neg h1])
          | ahead n =>
            obtain ⟨xc, tx, hva, hCt⟩ := hCo
            clear hva0
            obtain ⟨dx, n9, y0, y1, y2, y3, y4, w1, w2, w3, w4, I9⟩ := hCt.at_
            k_steps
            rename News _ _ _ _ => N7
            rename Fr _ _ _ _ => F7
            subst hQ8
            refine turn5 F7 N7 ?sub6h ne ?hm6h
            (case sub6h => (repeat (refine memAll (by k_mem) ?_)); (exact fun q hq => by k_mem))
            (case hm6h => intro z h1; simp only [if_neg h1])
          | search a b =>
            obtain ⟨xc, xf, xg, hva, hCt, hDf, hDb⟩ := hCo
            clear hva0
            obtain ⟨t9, q1, ta, tb, rfl, hT, hA, hB⟩ := hPv
            obtain ⟨oka, okb⟩ := okp
            obtain ⟨dx, n9, y0, y1, y2, y3, y4, w1, w2, w3, w4, I9⟩ := hCt.at_
            obtain ⟨dxf, nf, rlf, glf, tf1, tf2, hf1, hf2, rowsf, tagsf, If, _⟩ := id hDf.at_
            k_steps
            refine Paused.mk ?_
            rename Fr _ _ _ _ => F3
            rename News _ _ _ _ => N3
            refine told_ok B9 F3 X9 T9 rfl rfl (by decide) hDf oka ?_
            rintro h8 tk8 _ as8 ks8 re8 ⟨r8, rfl⟩
            have F8 := Fr.keeps F3 ks8
            have N8 := News.grown N3 ks8
            clear F3 N3 I9 If hCt hDf hDb
            k_steps
            refine Paused.mk ?_
            rename Fr _ _ _ _ => F3
            rename News _ _ _ _ => N3
            refine dfa_ok B9 F3 X9 T9 rfl rfl (by decide) (hA _ (Has.of N3 (fun q hq => by k_mem))) oka ?_
            intro h9 tk9 x9 ks9 nw9
            have hD9 := nw9.here
            have F9 := Fr.keeps F3 ks9
            have N9 := News.grown N3 ks9
            have re9 := PyProof.Rows.Reads.keeps ks9 re8
            clear F3 N3 re8 nw9
            obtain ⟨dxg, ng, rlg, glg, tg1, tg2, hg1, hg2, rowsg, tagsg, Ig, _⟩ := id hD9.at_
            k_steps
            refine Paused.mk ?_
            rename Fr _ _ _ _ => F3
            rename News _ _ _ _ => N3
            refine told_ok B9 F3 X9 T9 rfl rfl (by decide) hD9 oka ?_
            rintro h10 tk10 _ as10 ks10 re10 ⟨r10, rfl⟩
            have F10 := Fr.keeps F3 ks10
            have N10 := News.grown N3 ks10
            have re11 := PyProof.Rows.Reads.keeps ks10 re9
            clear F3 N3 re9 hD9 Ig
            k_steps
            refine Paused.mk ?_
            refine told_same re11 re10 (by ke_room) ?_
            k_steps
            rename News _ _ _ _ => N7
            rename Fr _ _ _ _ => F7
            subst hQ8
            refine turn5 F7 N7 ?sub6s ne ?hm6s
            (case sub6s => (repeat (refine memAll (by k_mem) ?_)); (exact fun q hq => by k_mem))
            (case hm6s => intro z h1; simp only [if_neg h1])
        · rintro m₇ news₁ h₇ tk₇ ⟨rest7, rfl⟩ F₇ N₇
          rw [unpin (m₁ := m₇) (Str.ofString "number"), pin0u rest7] at F₇
          change Fr (ghostOf s1.heap [(425, 421)]) s1.heap.objs.size _ _ at F₇
          change News (ghostOf s1.heap [(425, 421)]) s1.heap.objs.size _ _ at N₇
          clear F9 N9
          dsimp only
          obtain ⟨dx, od9, I9, hx9, hE9⟩ := (sTab _ (Has.of N₇ (fun q hq => by k_mem))).at_
          cases hx9
          k_steps
          refine Paused.mk ?_
          rename News _ _ _ _ => N3
          refine dict_same N3 (.tail _ (.tail _ (.tail _ sCm))) sLo sDi (by k_units) ?_
          k_steps
          refine Paused.mk ?_
          rename News _ _ _ _ => N4
          obtain ⟨dxb, odb, I9b, hx9b, hE9b⟩ := (sTab _ (Has.of N4 (fun q hq => by k_mem))).at_
          cases hx9b
          refine ke_eq_ints (xs := []) (ys := []) (ns := []) (ms := []) hE9b (News.isList N4 (.head _)) .nil .nil (by ke_room) ?_
          clear I9
          k_steps
          subst hQ9
          try dsimp only
          k_steps
end

end

section
set_option maxHeartbeats 8000000
open PySem PySem.W PyProof.Rows
-- The line o_head lays a twin of every constant of the top ahead of its kernel checks; the twins' equations make
-- the compiled file some 60 MB. These names stand where those twins would: o_head then goes on without them.
theorem top.tw357486453476387696 : True := trivial
theorem top.tw10001883323181062329 : True := trivial
theorem top.tw10005945817407372193 : True := trivial
theorem top.tw10006222313960134694 : True := trivial
theorem top.tw10008474027749305400 : True := trivial
theorem top.tw10079171474624433434 : True := trivial
theorem top.tw10090393231696489298 : True := trivial
theorem top.tw10187264123177260123 : True := trivial
theorem top.tw10187724287525710026 : True := trivial
theorem top.tw10194810499950245846 : True := trivial
theorem top.tw10195997230039290492 : True := trivial
theorem top.tw10245639961735157870 : True := trivial
theorem top.tw10341860258655708415 : True := trivial
theorem top.tw10399464001100048223 : True := trivial
theorem top.tw10404823597219466188 : True := trivial
theorem top.tw1040915598704419856 : True := trivial
theorem top.tw104434173382791472 : True := trivial
theorem top.tw10448899703829047738 : True := trivial
theorem top.tw1047907039808853306 : True := trivial
theorem top.tw105208000716104510 : True := trivial
theorem top.tw10548783162686979305 : True := trivial
theorem top.tw10574840078274726829 : True := trivial
theorem top.tw10579768621468169598 : True := trivial
theorem top.tw10648311167861321448 : True := trivial
theorem top.tw10657950659306570408 : True := trivial
theorem top.tw10665782433003767796 : True := trivial
theorem top.tw1068965626710143233 : True := trivial
theorem top.tw10773188271377071773 : True := trivial
theorem top.tw10783980745131425670 : True := trivial
theorem top.tw10797620697341660853 : True := trivial
theorem top.tw10801874191123338550 : True := trivial
theorem top.tw10864713392326063847 : True := trivial
theorem top.tw1088946173253831356 : True := trivial
theorem top.tw10915162052029792233 : True := trivial
theorem top.tw10936122117785486979 : True := trivial
theorem top.tw10956490626425055710 : True := trivial
theorem top.tw10996937224433265937 : True := trivial
theorem top.tw1108800333578037850 : True := trivial
theorem top.tw11116745826364501430 : True := trivial
theorem top.tw1112988674713690477 : True := trivial
theorem top.tw11141966352661209427 : True := trivial
theorem top.tw11199710921928265848 : True := trivial
theorem top.tw11203750815551599093 : True := trivial
theorem top.tw1123975283337734383 : True := trivial
theorem top.tw11240886729373846589 : True := trivial
theorem top.tw1124271682379634556 : True := trivial
theorem top.tw11279390925490393535 : True := trivial
theorem top.tw11334203419191126389 : True := trivial
theorem top.tw11334350811105764591 : True := trivial
theorem top.tw11334415319851112604 : True := trivial
theorem top.tw1139600151236580504 : True := trivial
theorem top.tw1142415686869020238 : True := trivial
theorem top.tw11430207588045935325 : True := trivial
theorem top.tw11443710868159068359 : True := trivial
theorem top.tw11457754044182789617 : True := trivial
theorem top.tw11459358961799972967 : True := trivial
theorem top.tw1149218181149386328 : True := trivial
theorem top.tw11520865232209809239 : True := trivial
theorem top.tw11542710104232473196 : True := trivial
theorem top.tw11613256710310857696 : True := trivial
theorem top.tw11762496359356365647 : True := trivial
theorem top.tw11922380849998532372 : True := trivial
theorem top.tw11948995353047267269 : True := trivial
theorem top.tw11960245374511038805 : True := trivial
theorem top.tw11982747722937265360 : True := trivial
theorem top.tw11994683656316670133 : True := trivial
theorem top.tw12012865196380796599 : True := trivial
theorem top.tw12094960947251128927 : True := trivial
theorem top.tw12110338405024883934 : True := trivial
theorem top.tw12117888159696746259 : True := trivial
theorem top.tw1212798325632107971 : True := trivial
theorem top.tw12166907935582030026 : True := trivial
theorem top.tw12209182163369298222 : True := trivial
theorem top.tw12317137736924338119 : True := trivial
theorem top.tw12318557346453588183 : True := trivial
theorem top.tw12342655685612074800 : True := trivial
theorem top.tw12376051458212225564 : True := trivial
theorem top.tw12392516345856041104 : True := trivial
theorem top.tw12415523145999629524 : True := trivial
theorem top.tw12425085872883035938 : True := trivial
theorem top.tw12427389293880184781 : True := trivial
theorem top.tw12483720753089274532 : True := trivial
theorem top.tw12540527436937284434 : True := trivial
theorem top.tw12643491718579748851 : True := trivial
theorem top.tw12718909917080609646 : True := trivial
theorem top.tw1275901062530889299 : True := trivial
theorem top.tw12764151676501842404 : True := trivial
theorem top.tw12819366960792805191 : True := trivial
theorem top.tw1284575025550258836 : True := trivial
theorem top.tw12904532413392791838 : True := trivial
theorem top.tw12958502747184954254 : True := trivial
theorem top.tw12958664272152378060 : True := trivial
theorem top.tw1297684725254868899 : True := trivial
theorem top.tw13001836021917841797 : True := trivial
theorem top.tw13012589842206080548 : True := trivial
theorem top.tw13044034144603486326 : True := trivial
theorem top.tw13090165191389475591 : True := trivial
theorem top.tw13091174067606910046 : True := trivial
theorem top.tw13160728816969591200 : True := trivial
theorem top.tw13177472732611162249 : True := trivial
theorem top.tw1321871150748368714 : True := trivial
theorem top.tw13223034962123697568 : True := trivial
theorem top.tw13272337422414781067 : True := trivial
theorem top.tw13303987763403120937 : True := trivial
theorem top.tw13305523845174962083 : True := trivial
theorem top.tw13318506193475082254 : True := trivial
theorem top.tw13326734554550294991 : True := trivial
theorem top.tw13345470168829271861 : True := trivial
theorem top.tw13359135706311490777 : True := trivial
theorem top.tw13370750898655102155 : True := trivial
theorem top.tw13420762306968818387 : True := trivial
theorem top.tw13500427573557490136 : True := trivial
theorem top.tw13501252493785611398 : True := trivial
theorem top.tw13549259019975226677 : True := trivial
theorem top.tw13710211086531791108 : True := trivial
theorem top.tw13802547742096326172 : True := trivial
theorem top.tw13822267516522204269 : True := trivial
theorem top.tw13864677062968915208 : True := trivial
theorem top.tw13889309363888878346 : True := trivial
theorem top.tw13889484949932952446 : True := trivial
theorem top.tw13896958669275611876 : True := trivial
theorem top.tw13928562000808390012 : True := trivial
theorem top.tw13983857475226248213 : True := trivial
theorem top.tw13987285891283452908 : True := trivial
theorem top.tw13994475860397038760 : True := trivial
theorem top.tw1400011881503588481 : True := trivial
theorem top.tw14145802354927516647 : True := trivial
theorem top.tw14146565569762628222 : True := trivial
theorem top.tw14168018189251442112 : True := trivial
theorem top.tw14282377253939248939 : True := trivial
theorem top.tw14349089067433371257 : True := trivial
theorem top.tw14371913498598963198 : True := trivial
theorem top.tw14390669486469195807 : True := trivial
theorem top.tw14402358008270493973 : True := trivial
theorem top.tw14453841093610474573 : True := trivial
theorem top.tw14459580976405569124 : True := trivial
theorem top.tw14502225709538309166 : True := trivial
theorem top.tw14537839394382259888 : True := trivial
theorem top.tw14597223018079223185 : True := trivial
theorem top.tw14608685727046917156 : True := trivial
theorem top.tw14611434983143301774 : True := trivial
theorem top.tw14615657086365298920 : True := trivial
theorem top.tw14632489290957082403 : True := trivial
theorem top.tw14657780768301432306 : True := trivial
theorem top.tw14671331368771545958 : True := trivial
theorem top.tw146815374380898660 : True := trivial
theorem top.tw14762295962024373759 : True := trivial
theorem top.tw14789260269991461300 : True := trivial
theorem top.tw14792502323349849635 : True := trivial
theorem top.tw14796646475526232899 : True := trivial
theorem top.tw14823308797102314842 : True := trivial
theorem top.tw14826035006057030972 : True := trivial
theorem top.tw1483126911874232274 : True := trivial
theorem top.tw14901070454687303710 : True := trivial
theorem top.tw14917401599646851644 : True := trivial
theorem top.tw14999292322695301712 : True := trivial
theorem top.tw15092371282622821202 : True := trivial
theorem top.tw15095372191486117680 : True := trivial
theorem top.tw15131181735567767105 : True := trivial
theorem top.tw1516213087968936877 : True := trivial
theorem top.tw15169761463676818070 : True := trivial
theorem top.tw15177526630643400193 : True := trivial
theorem top.tw15212760480394562756 : True := trivial
theorem top.tw15240379268576122478 : True := trivial
theorem top.tw15245507539482535896 : True := trivial
theorem top.tw15254643099363442306 : True := trivial
theorem top.tw15339535825480214425 : True := trivial
theorem top.tw15361541807878343388 : True := trivial
theorem top.tw15362295582089109014 : True := trivial
theorem top.tw15451780782824253742 : True := trivial
theorem top.tw15503665604740900718 : True := trivial
theorem top.tw15646934709686841381 : True := trivial
theorem top.tw15722756333993289495 : True := trivial
theorem top.tw15740088241188596515 : True := trivial
theorem top.tw1585457916280141200 : True := trivial
theorem top.tw15860264024139754761 : True := trivial
theorem top.tw15874363893724204672 : True := trivial
theorem top.tw15877122091014420850 : True := trivial
theorem top.tw15878805988109762761 : True := trivial
theorem top.tw15918733279669447828 : True := trivial
theorem top.tw15928431593259215692 : True := trivial
theorem top.tw15976228082101565994 : True := trivial
theorem top.tw15985961358823992270 : True := trivial
theorem top.tw16044733080236030384 : True := trivial
theorem top.tw16054190913257422852 : True := trivial
theorem top.tw16058212318047004132 : True := trivial
theorem top.tw16104615914030681952 : True := trivial
theorem top.tw16123964013534891561 : True := trivial
theorem top.tw16155163154822807229 : True := trivial
theorem top.tw1617357707322924660 : True := trivial
theorem top.tw16174758807025615021 : True := trivial
theorem top.tw16196420915677631385 : True := trivial
theorem top.tw16273406610938067001 : True := trivial
theorem top.tw16352630495959832749 : True := trivial
theorem top.tw1638113669730673903 : True := trivial
theorem top.tw16415559393655328363 : True := trivial
theorem top.tw16420938139371093754 : True := trivial
theorem top.tw16439428074185983240 : True := trivial
theorem top.tw16453443671601555132 : True := trivial
theorem top.tw16550210197400561554 : True := trivial
theorem top.tw1655259298481077034 : True := trivial
theorem top.tw16580785732701462914 : True := trivial
theorem top.tw16597617366809209970 : True := trivial
theorem top.tw16666122058527598403 : True := trivial
theorem top.tw16713831800681072344 : True := trivial
theorem top.tw16719718919923625709 : True := trivial
theorem top.tw1673491819266455571 : True := trivial
theorem top.tw16736118626332596326 : True := trivial
theorem top.tw16759092144687519636 : True := trivial
theorem top.tw1676862907878916244 : True := trivial
theorem top.tw16782997733028217545 : True := trivial
theorem top.tw16795567611416646642 : True := trivial
theorem top.tw16821654228018055803 : True := trivial
theorem top.tw16840627104734473223 : True := trivial
theorem top.tw16878204669230926818 : True := trivial
theorem top.tw16885616592811714743 : True := trivial
theorem top.tw1697544655201012999 : True := trivial
theorem top.tw17022078359063049780 : True := trivial
theorem top.tw17030962893124633753 : True := trivial
theorem top.tw17046948494117081484 : True := trivial
theorem top.tw1706793611546318481 : True := trivial
theorem top.tw17103177528636943170 : True := trivial
theorem top.tw17103585973383926153 : True := trivial
theorem top.tw17176029603704830031 : True := trivial
theorem top.tw17219337458794519322 : True := trivial
theorem top.tw17315540178315561739 : True := trivial
theorem top.tw1732150942055357024 : True := trivial
theorem top.tw17323899518341599180 : True := trivial
theorem top.tw17342085116792181814 : True := trivial
theorem top.tw17355269125676882429 : True := trivial
theorem top.tw1736530178072539846 : True := trivial
theorem top.tw17428532607074087071 : True := trivial
theorem top.tw17469865338272021226 : True := trivial
theorem top.tw17486766287000646611 : True := trivial
theorem top.tw1754339480302792767 : True := trivial
theorem top.tw17565814175750979855 : True := trivial
theorem top.tw17576949682797635024 : True := trivial
theorem top.tw17620759639134147866 : True := trivial
theorem top.tw17781115878593249900 : True := trivial
theorem top.tw17795014544551873601 : True := trivial
theorem top.tw17810072253543177317 : True := trivial
theorem top.tw17886615442053742456 : True := trivial
theorem top.tw17953984050398360512 : True := trivial
theorem top.tw18034075008235765660 : True := trivial
theorem top.tw18063644159110109576 : True := trivial
theorem top.tw18085771088847121727 : True := trivial
theorem top.tw1814787853859245837 : True := trivial
theorem top.tw18164388396756303480 : True := trivial
theorem top.tw18177719399980262173 : True := trivial
theorem top.tw18186074749648716422 : True := trivial
theorem top.tw18194552166560175392 : True := trivial
theorem top.tw18237780215024852062 : True := trivial
theorem top.tw18245740138792012028 : True := trivial
theorem top.tw18289109515434150305 : True := trivial
theorem top.tw1833847959688406909 : True := trivial
theorem top.tw18367679650794681301 : True := trivial
theorem top.tw18371284783138465269 : True := trivial
theorem top.tw1843344800811705456 : True := trivial
theorem top.tw1886144042066472794 : True := trivial
theorem top.tw196536941598035525 : True := trivial
theorem top.tw1971433849790844608 : True := trivial
theorem top.tw1988063486488863061 : True := trivial
theorem top.tw2029088862249889922 : True := trivial
theorem top.tw2057334267981633021 : True := trivial
theorem top.tw2126296398998916975 : True := trivial
theorem top.tw2145171640123136144 : True := trivial
theorem top.tw216529984938456764 : True := trivial
theorem top.tw2180519467939381972 : True := trivial
theorem top.tw2249405535684624136 : True := trivial
theorem top.tw2287823674025257028 : True := trivial
theorem top.tw2312856594315299383 : True := trivial
theorem top.tw2369445192022557226 : True := trivial
theorem top.tw2377541652452675900 : True := trivial
theorem top.tw2405475915293451298 : True := trivial
theorem top.tw2417791160451022400 : True := trivial
theorem top.tw2443449257678562572 : True := trivial
theorem top.tw2461987449733181817 : True := trivial
theorem top.tw2462062305354472974 : True := trivial
theorem top.tw2464713573024523455 : True := trivial
theorem top.tw2506305409684761478 : True := trivial
theorem top.tw2514443458684651071 : True := trivial
theorem top.tw2515962861023736851 : True := trivial
theorem top.tw2544169868661182894 : True := trivial
theorem top.tw2555065506035805374 : True := trivial
theorem top.tw2581206410525282061 : True := trivial
theorem top.tw2617719716777270872 : True := trivial
theorem top.tw2665807947273092163 : True := trivial
theorem top.tw2683898200743741643 : True := trivial
theorem top.tw2686433634493928565 : True := trivial
theorem top.tw2722852734226103192 : True := trivial
theorem top.tw2727672472851901052 : True := trivial
theorem top.tw2732273902793177162 : True := trivial
theorem top.tw2741389259953327712 : True := trivial
theorem top.tw2782073688633401757 : True := trivial
theorem top.tw2812155379371279736 : True := trivial
theorem top.tw283044589724301 : True := trivial
theorem top.tw2835187731363253809 : True := trivial
theorem top.tw2847958352784047137 : True := trivial
theorem top.tw2867133514656366558 : True := trivial
theorem top.tw2878843996050045342 : True := trivial
theorem top.tw2907113945770861938 : True := trivial
theorem top.tw297971269722091814 : True := trivial
theorem top.tw2985252069258134486 : True := trivial
theorem top.tw2988451766255067171 : True := trivial
theorem top.tw3002795768020413707 : True := trivial
theorem top.tw3195522803047326042 : True := trivial
theorem top.tw3195968871104189447 : True := trivial
theorem top.tw3207569582813703071 : True := trivial
theorem top.tw3217022616335106338 : True := trivial
theorem top.tw3254097082911018636 : True := trivial
theorem top.tw3261557481417251176 : True := trivial
theorem top.tw3315250197877816394 : True := trivial
theorem top.tw3378803678994701225 : True := trivial
theorem top.tw339143206060000330 : True := trivial
theorem top.tw3422688185749166683 : True := trivial
theorem top.tw342308947776675178 : True := trivial
theorem top.tw3474246075231452896 : True := trivial
theorem top.tw3479634599624807885 : True := trivial
theorem top.tw3484022092364678248 : True := trivial
theorem top.tw350670483859837877 : True := trivial
theorem top.tw352232786441526191 : True := trivial
theorem top.tw3561193834555079511 : True := trivial
theorem top.tw3584897518013459382 : True := trivial
theorem top.tw3669314199184481253 : True := trivial
theorem top.tw370947364307004932 : True := trivial
theorem top.tw3712731000106771831 : True := trivial
theorem top.tw3730354652608582461 : True := trivial
theorem top.tw3739144386018749749 : True := trivial
theorem top.tw3767615275625035234 : True := trivial
theorem top.tw3776753064480771068 : True := trivial
theorem top.tw3784791708983455732 : True := trivial
theorem top.tw381845443943030031 : True := trivial
theorem top.tw3855276242980373810 : True := trivial
theorem top.tw3871027444623705763 : True := trivial
theorem top.tw390997316461189296 : True := trivial
theorem top.tw3976154599441133093 : True := trivial
theorem top.tw4047667213573674445 : True := trivial
theorem top.tw4058662728301269685 : True := trivial
theorem top.tw4076138812419527698 : True := trivial
theorem top.tw4134505453457115739 : True := trivial
theorem top.tw4166218997396506358 : True := trivial
theorem top.tw4177254973167742082 : True := trivial
theorem top.tw4186445540838780016 : True := trivial
theorem top.tw4205137553216949640 : True := trivial
theorem top.tw4213018616267185653 : True := trivial
theorem top.tw427269002284569659 : True := trivial
theorem top.tw4299629679881509495 : True := trivial
theorem top.tw4321519831107876412 : True := trivial
theorem top.tw4331257952254489624 : True := trivial
theorem top.tw4383139521930768336 : True := trivial
theorem top.tw4392038535549328194 : True := trivial
theorem top.tw4498253355057717688 : True := trivial
theorem top.tw4526881389914513428 : True := trivial
theorem top.tw4547018644641229820 : True := trivial
theorem top.tw4555866861457887817 : True := trivial
theorem top.tw4571971715460732019 : True := trivial
theorem top.tw4597200072644226624 : True := trivial
theorem top.tw4656485037274611717 : True := trivial
theorem top.tw4671429814451907529 : True := trivial
theorem top.tw4699463449715708850 : True := trivial
theorem top.tw47109162367338493 : True := trivial
theorem top.tw4713442408853163898 : True := trivial
theorem top.tw4736427724481360342 : True := trivial
theorem top.tw4773702212245658779 : True := trivial
theorem top.tw4784893810139332661 : True := trivial
theorem top.tw4828031223510198475 : True := trivial
theorem top.tw4835499133494076262 : True := trivial
theorem top.tw4840481374290595910 : True := trivial
theorem top.tw4859757453598101857 : True := trivial
theorem top.tw4951766788466123468 : True := trivial
theorem top.tw501154541418245514 : True := trivial
theorem top.tw5088376156974544275 : True := trivial
theorem top.tw5105846836358774362 : True := trivial
theorem top.tw517144808224063464 : True := trivial
theorem top.tw5206643200097340550 : True := trivial
theorem top.tw5225153198818245361 : True := trivial
theorem top.tw5225916559131626549 : True := trivial
theorem top.tw5244899138074338376 : True := trivial
theorem top.tw5245862010334584759 : True := trivial
theorem top.tw5303079699428457377 : True := trivial
theorem top.tw5398424786039705171 : True := trivial
theorem top.tw5476889619067714990 : True := trivial
theorem top.tw5523086135645875356 : True := trivial
theorem top.tw5581607755468803823 : True := trivial
theorem top.tw5609151216138764652 : True := trivial
theorem top.tw5648408011753718230 : True := trivial
theorem top.tw5667650583090716360 : True := trivial
theorem top.tw5676724533059319181 : True := trivial
theorem top.tw5703469652483361258 : True := trivial
theorem top.tw575894324575664597 : True := trivial
theorem top.tw5860347150701562758 : True := trivial
theorem top.tw5868845118606482295 : True := trivial
theorem top.tw5889316905344633881 : True := trivial
theorem top.tw5915399644114372684 : True := trivial
theorem top.tw5938664839603501006 : True := trivial
theorem top.tw594810645892935528 : True := trivial
theorem top.tw5969682004907312646 : True := trivial
theorem top.tw5983031951866500094 : True := trivial
theorem top.tw602653604445443664 : True := trivial
theorem top.tw6124053682588569230 : True := trivial
theorem top.tw6127594578889010139 : True := trivial
theorem top.tw6176384092110617959 : True := trivial
theorem top.tw6187478851450931391 : True := trivial
theorem top.tw6189502492464219833 : True := trivial
theorem top.tw6196800358849779857 : True := trivial
theorem top.tw620129878449983639 : True := trivial
theorem top.tw6211089042160764376 : True := trivial
theorem top.tw6240723676877644813 : True := trivial
theorem top.tw6265701101103706036 : True := trivial
theorem top.tw6286779285267259847 : True := trivial
theorem top.tw6292954644110606532 : True := trivial
theorem top.tw6333448901615975916 : True := trivial
theorem top.tw6370870915552960936 : True := trivial
theorem top.tw6430265229019958763 : True := trivial
theorem top.tw6431110157172167083 : True := trivial
theorem top.tw6438537300738474071 : True := trivial
theorem top.tw6473336682457920079 : True := trivial
theorem top.tw6491118196486620199 : True := trivial
theorem top.tw6505410396798821541 : True := trivial
theorem top.tw6520327441239513222 : True := trivial
theorem top.tw6572447435987645144 : True := trivial
theorem top.tw6624316729101989866 : True := trivial
theorem top.tw6659320528611288953 : True := trivial
theorem top.tw6662652255960138227 : True := trivial
theorem top.tw6664487174759623829 : True := trivial
theorem top.tw6674990990233134667 : True := trivial
theorem top.tw6694047246710070196 : True := trivial
theorem top.tw672699306608606093 : True := trivial
theorem top.tw6746510453823603384 : True := trivial
theorem top.tw6749217079512962374 : True := trivial
theorem top.tw6756868429301003459 : True := trivial
theorem top.tw6761616313442571491 : True := trivial
theorem top.tw6812286434817487243 : True := trivial
theorem top.tw681777741448182936 : True := trivial
theorem top.tw6859976401760118174 : True := trivial
theorem top.tw6883741973766446791 : True := trivial
theorem top.tw6898770573198911631 : True := trivial
theorem top.tw6906291655842520137 : True := trivial
theorem top.tw6919701780365589675 : True := trivial
theorem top.tw6973401727384321114 : True := trivial
theorem top.tw7008692893051332821 : True := trivial
theorem top.tw7033079012710635876 : True := trivial
theorem top.tw7063965047294614053 : True := trivial
theorem top.tw7069510175615937415 : True := trivial
theorem top.tw708234853630380328 : True := trivial
theorem top.tw7198060816514059695 : True := trivial
theorem top.tw7204493036743257322 : True := trivial
theorem top.tw7204998973626084599 : True := trivial
theorem top.tw7250933059871147345 : True := trivial
theorem top.tw7260941619817147077 : True := trivial
theorem top.tw728428047077509346 : True := trivial
theorem top.tw7297446738713254254 : True := trivial
theorem top.tw7313339093194340965 : True := trivial
theorem top.tw7386116660499605909 : True := trivial
theorem top.tw7414872774492366064 : True := trivial
theorem top.tw7429413206186439793 : True := trivial
theorem top.tw7444641836354208208 : True := trivial
theorem top.tw7458633546980236471 : True := trivial
theorem top.tw7527032243904285869 : True := trivial
theorem top.tw7554992682853132865 : True := trivial
theorem top.tw7557910624720293991 : True := trivial
theorem top.tw7600245330811189008 : True := trivial
theorem top.tw76412952228603488 : True := trivial
theorem top.tw7673058066778466091 : True := trivial
theorem top.tw7681529838311687354 : True := trivial
theorem top.tw7715697345341360870 : True := trivial
theorem top.tw7740461459972228597 : True := trivial
theorem top.tw7743179893348639699 : True := trivial
theorem top.tw775762912060472103 : True := trivial
theorem top.tw7830913209206220567 : True := trivial
theorem top.tw7847352863974893604 : True := trivial
theorem top.tw7847650389618582240 : True := trivial
theorem top.tw7855079511596107753 : True := trivial
theorem top.tw788273225186049534 : True := trivial
theorem top.tw795583310449317561 : True := trivial
theorem top.tw7990429038631628895 : True := trivial
theorem top.tw8025738503920905074 : True := trivial
theorem top.tw8043003576528973991 : True := trivial
theorem top.tw8054331753737935190 : True := trivial
theorem top.tw8107780213005350392 : True := trivial
theorem top.tw8139039716903228087 : True := trivial
theorem top.tw8140125068956082859 : True := trivial
theorem top.tw814325599930780420 : True := trivial
theorem top.tw8143265674769528471 : True := trivial
theorem top.tw8148004212497801138 : True := trivial
theorem top.tw81815255157605957 : True := trivial
theorem top.tw8184561461823581802 : True := trivial
theorem top.tw8204474986945543665 : True := trivial
theorem top.tw8237333600419904120 : True := trivial
theorem top.tw8265191368974092141 : True := trivial
theorem top.tw8265311939077410998 : True := trivial
theorem top.tw8281120267493503204 : True := trivial
theorem top.tw8311017846404947139 : True := trivial
theorem top.tw8321918168302905379 : True := trivial
theorem top.tw8327351992414209593 : True := trivial
theorem top.tw8363718466572441477 : True := trivial
theorem top.tw8369368087495890639 : True := trivial
theorem top.tw8410488445778877200 : True := trivial
theorem top.tw84136930442132756 : True := trivial
theorem top.tw8443935842833279946 : True := trivial
theorem top.tw8507776931139520737 : True := trivial
theorem top.tw8523463495250067690 : True := trivial
theorem top.tw8538268897159353584 : True := trivial
theorem top.tw8560541052185303311 : True := trivial
theorem top.tw8598144960395782539 : True := trivial
theorem top.tw860223938195835975 : True := trivial
theorem top.tw8622502720953521162 : True := trivial
theorem top.tw8640399195822439974 : True := trivial
theorem top.tw864819663365544661 : True := trivial
theorem top.tw8657480035899644758 : True := trivial
theorem top.tw8679839319945467846 : True := trivial
theorem top.tw8689318265317240412 : True := trivial
theorem top.tw8694864300669457046 : True := trivial
theorem top.tw8729362747519067210 : True := trivial
theorem top.tw8735323631387419056 : True := trivial
theorem top.tw8810280945414196856 : True := trivial
theorem top.tw8874702517807110003 : True := trivial
theorem top.tw887695700811335699 : True := trivial
theorem top.tw8892184565913893157 : True := trivial
theorem top.tw8968299171318014206 : True := trivial
theorem top.tw8973803690348224638 : True := trivial
theorem top.tw9059672392935016618 : True := trivial
theorem top.tw9059832203979395877 : True := trivial
theorem top.tw9063741608606530840 : True := trivial
theorem top.tw9068506458530023791 : True := trivial
theorem top.tw908825868028484722 : True := trivial
theorem top.tw9108098604805947806 : True := trivial
theorem top.tw9152664641465651067 : True := trivial
theorem top.tw9165953624949470791 : True := trivial
theorem top.tw9166809390415177425 : True := trivial
theorem top.tw9178861053002065721 : True := trivial
theorem top.tw9227057690007400460 : True := trivial
theorem top.tw9227541089923242437 : True := trivial
theorem top.tw9229161468869434483 : True := trivial
theorem top.tw9233335307524088747 : True := trivial
theorem top.tw9272544492142499777 : True := trivial
theorem top.tw9305691244287143441 : True := trivial
theorem top.tw9361663168868926718 : True := trivial
theorem top.tw9366391650621772374 : True := trivial
theorem top.tw9378254376102152143 : True := trivial
theorem top.tw9382581127745807760 : True := trivial
theorem top.tw9437893007894698314 : True := trivial
theorem top.tw9442318146202087700 : True := trivial
theorem top.tw9503340733035011235 : True := trivial
theorem top.tw956942650209027819 : True := trivial
theorem top.tw9589608677651300831 : True := trivial
theorem top.tw9590735534726013551 : True := trivial
theorem top.tw9614876229902214918 : True := trivial
theorem top.tw9631074621892390191 : True := trivial
theorem top.tw9666326922614434849 : True := trivial
theorem top.tw9685713192446186341 : True := trivial
theorem top.tw9739860059890490050 : True := trivial
theorem top.tw9743097575036673082 : True := trivial
theorem top.tw9759319705405543751 : True := trivial
theorem top.tw9768079942903668216 : True := trivial
theorem top.tw9843447840031818808 : True := trivial
theorem top.tw9851269098105209369 : True := trivial
theorem top.tw9913501989792142831 : True := trivial
theorem top.tw9919435345466941130 : True := trivial
theorem top.tw9951221954081769418 : True := trivial
theorem top.tw9953747333497923681 : True := trivial
theorem top.tw995497684801637723 : True := trivial
theorem top.tw9961057766049560675 : True := trivial
theorem top.tw9962302188120564619 : True := trivial
set_option Elab.async true in
theorem top : PySem.Challenge.rw_ok0116_01.Holds := by
  w_on
  o_law
  o_head (kmHook hd.heap_1 [2, 3, 15, 17, 18, 20, 21, 29, 31, 32, 34, 35, 36, 38, 39, 41, 42, 43, 45, 46, 48, 49, 50, 52, 53, 55, 56, 57, 59, 60, 62, 63, 64, 67, 68, 69, 70, 71, 72, 73, 83, 85, 86, 88, 89, 90, 91, 92, 93, 94, 104, 106, 107, 109, 110, 111, 113, 114, 116, 117, 118, 120, 121, 123, 124, 125, 127, 128, 130, 131, 132, 134, 135, 137, 138, 139, 140, 141, 142, 143, 146, 148, 149, 151, 152, 153, 155, 156, 158, 159, 160, 162, 163, 165, 166, 167, 169, 170, 172, 173, 181, 183, 184, 186, 187, 188, 190, 191, 193, 194, 195, 196, 197, 198, 200, 201, 203, 204, 205, 206, 207, 208, 210, 211, 213, 214, 215, 216, 217, 218, 221, 222, 223, 224, 225, 226, 228, 229, 231, 232, 233, 234, 235, 236, 238, 239, 241, 242, 243, 244, 245, 246, 248, 249, 251, 252, 253, 255, 256, 258, 259, 260, 262, 263, 265, 266, 267, 269, 270, 272, 273, 274, 276, 277, 279, 280, 281, 283, 284, 286, 287, 288, 290, 291, 293, 294, 295, 297, 298, 300, 301, 302, 304, 305, 307, 308, 309, 311, 312, 314, 315, 316, 318, 319, 321, 322, 323, 325, 326, 328, 329, 330, 332, 333, 335, 336, 337, 338, 339, 340, 341, 351, 353, 354, 356, 357, 358, 360, 361, 363, 364, 365, 366, 367, 368, 370, 371, 373, 374, 375, 377, 378, 380, 381, 382, 384, 385, 387, 388, 389, 391, 392, 394, 395, 396, 398, 399, 401, 402, 403, 406, 407, 408, 411, 412, 413, 414, 415, 416, 417, 420, 422, 423, 425, 426, 427, 430, 431, 432, 435, 436, 437, 439, 440, 442, 443, 444, 447, 448, 449, 452, 453] (fun _ => by kernel_rfl) [421])
  (case hw => w_witness2)
  exact law_walk (by rfl)
end

end Mine

theorem PySem.Challenge.cw_ok0116_01_holds : PySem.Challenge.rw_ok0116_01.Holds := by
  exact Mine.top
