import PyProof.Rows.All
import Wide.All
import OpenK.AllK
import Wide.FinOn
import Lean
import PySem.Challenge.RW_no0401_01
open PySem PySem.W PyProof.Rows PySem.Calls
set_option Elab.async false
set_option maxRecDepth 100000
set_option compiler.extract_closed false
namespace Mine
local macro_rules | `(tactic| omega) => `(tactic| ((fail_if_success (fail_if_success (omega +splitDisjunctions))); first | (law_clear; lia) | lia | omega +splitDisjunctions))
abbrev offRow : OpenRow := { PySem.Challenge.rw_no0401_01.row with args := [] }
def Tg (n : Nat) : Nat := n
theorem tg (_ : offRow.Holds) : Tg 0 = 0 := rfl
set_option maxHeartbeats 8000000 in
/-- nothing is claimed here: the head is begun (on a row that no head takes) for its constants alone, hd.heap_1 and hd.view_1 -/
theorem hd : Tg 0 = 0 ∨ True := by
  simp (disch := k_head) only [tg, or_true]
/-- the addresses that stand in hd.heap_1 -/
abbrev lawAt : List Nat := [2, 3, 15, 17, 18, 20, 21, 22, 29, 30, 31, 32, 35, 42, 43, 44, 47, 54, 55, 56, 66, 68, 69, 71, 72, 73, 75, 76, 78, 79, 80, 82, 83, 85, 86, 87, 89, 90, 92, 93, 94, 96, 97, 99, 100, 101, 103, 104, 106, 107, 108, 110, 111, 113, 114, 115, 117, 118, 120, 121, 122, 124, 125, 127, 128, 129, 131, 132, 134, 135, 136, 137, 138, 139, 140, 143, 145, 146, 148, 149, 157, 159, 160, 162, 163, 164, 166, 167, 169, 170, 171, 173, 174, 176, 177, 178, 180, 181, 183, 184, 185, 187, 188, 190, 191, 192, 193, 194, 195, 196, 206, 208, 209, 211, 212, 213, 215, 216, 218, 219, 220, 222, 223, 225, 226, 227, 228, 229, 230, 231, 241, 243, 244, 246, 247, 248, 250, 251, 253, 254, 255, 257, 258, 260, 261, 262, 264, 265, 267, 268, 269, 270, 271, 272, 273, 276, 278, 279, 281, 282, 283, 286, 287, 288, 290, 291, 293, 294, 295, 298, 299]
/-- the def's record, written out -/
abbrev recOf {o : Option (DefRec × List (Str × Expr))} {d : DefRec} {kwd : List (Str × Expr)} (_ : o = some (d, kwd)) : DefRec := d
-- hd.heap_1, hd.view_1 and the program: their quick twins are asked for once here, under names that stand already, so none is laid (here or later)
theorem pre.tw357486453476387696 : True := trivial
theorem pre.tw2508255044705368994 : True := trivial
theorem pre.tw14953074670389275911 : True := trivial
theorem pre.tw7722997479763263290 : True := trivial
set_option Elab.async true in
/-- nothing is claimed here -/
theorem pre : (fun (_ : Params → Frag) (_ : Program) => true) hd.heap_1 hd.view_1 = true := by
  first
  | k_qdec
  | rfl
#print axioms pre

section
abbrev Led := List (Addr × Obj)

/-- a row of the log -/
structure Rw where
  t : Int
  i : Int
  d : Array UInt8
deriving DecidableEq

def Rw.dat (r : Rw) : Dat := .tuple [.int r.t, .int r.i, .int 0, .bytes r.d]

theorem tupLit {news : Led} {v : Value} {ds : List Dat} (h : DatIn news v (.tuple ds)) : ∃ a vs n, v = .ref a ∧ (a, ({ cls := .type "tuple", data := .seq vs.toArray n } : Obj)) ∈ news ∧ DatAll news vs ds := by
  cases h with | tuple hm ha => exact ⟨_, _, _, rfl, hm, ha⟩
theorem datAll_cons {news : Led} {vs : List Value} {d : Dat} {ds : List Dat} (h : DatAll news vs (d :: ds)) : ∃ u us, vs = u :: us ∧ DatIn news u d ∧ DatAll news us ds := by
  cases h with | cons a b => exact ⟨_, _, rfl, a, b⟩
theorem datAll_nil {news : Led} {vs : List Value} (h : DatAll news vs []) : vs = [] := by cases h; rfl
theorem datIn_int {news : Led} {v : Value} {i : Int} (h : DatIn news v (.int i)) : ∃ t, v = .int i t := by cases h; exact ⟨_, rfl⟩
theorem datIn_bytes {news : Led} {v : Value} {i : Array UInt8} (h : DatIn news v (.bytes i)) : ∃ t, v = .bytes i t := by cases h; exact ⟨_, rfl⟩
abbrev rowVs (r : Rw) (t1 t2 t3 t4 : Tok) : List Value := [.int r.t t1, .int r.i t2, .int 0 t3, .bytes r.d t4]
theorem row_shape {news : Led} {v : Value} {r : Rw} (h : DatIn news v r.dat) : ∃ a n t1 t2 t3 t4, v = .ref a ∧ (a, ({ cls := .type "tuple", data := .seq (rowVs r t1 t2 t3 t4).toArray n } : Obj)) ∈ news := by
  obtain ⟨a, vs, n, rfl, hm, ha⟩ := tupLit h
  obtain ⟨u1, us, rfl, h1, ha⟩ := datAll_cons ha
  obtain ⟨u2, us, rfl, h2, ha⟩ := datAll_cons ha
  obtain ⟨u3, us, rfl, h3, ha⟩ := datAll_cons ha
  obtain ⟨u4, us, rfl, h4, ha⟩ := datAll_cons ha
  obtain rfl := datAll_nil ha
  obtain ⟨t1, rfl⟩ := datIn_int h1
  obtain ⟨t2, rfl⟩ := datIn_int h2
  obtain ⟨t3, rfl⟩ := datIn_int h3
  obtain ⟨t4, rfl⟩ := datIn_bytes h4
  exact ⟨a, n, t1, t2, t3, t4, rfl, hm⟩
theorem row_mk {news : Led} {a : Addr} {n : Nat} {r : Rw} {t1 t2 t3 t4 : Tok} (h : (a, ({ cls := .type "tuple", data := .seq (rowVs r t1 t2 t3 t4).toArray n } : Obj)) ∈ news) : DatIn news (.ref a) r.dat :=
  .tuple h (.cons (.int _ _) (.cons (.int _ _) (.cons (.int _ _) (.cons (.bytes _ _) .nil))))
theorem led_one {h₀ h : Heap} {L a : Addr} {news : Led} {o o' : Obj} (N : News h₀ L h news) (m : (a, o) ∈ news) (m' : (a, o') ∈ news) : o = o' := by
  have e := (N _ m).1
  rw [(N _ m').1] at e
  exact (Option.some.inj e).symm
theorem rowVs_inj {r q : Rw} {t1 t2 t3 t4 u1 u2 u3 u4 : Tok} (h : rowVs r t1 t2 t3 t4 = rowVs q u1 u2 u3 u4) : r = q := by
  cases r; cases q
  simp only [rowVs, List.cons.injEq, Value.int.injEq, Value.bytes.injEq] at h
  simp only [Rw.mk.injEq]
  exact ⟨h.1.1, h.2.1.1, h.2.2.2.1.1⟩
theorem seq_inj {c c' : Value} {d d' : Option Addr} {n n' : Nat} {xs ys : List Value} {sl sl' : Array (Option Value)} (h : (⟨c, d, .seq xs.toArray n, sl⟩ : Obj) = ⟨c', d', .seq ys.toArray n', sl'⟩) : xs = ys := by
  injection h with _ _ e _
  injection e with e _
  exact List.toArray_inj e
theorem row_one {h₀ h : Heap} {L : Addr} {news : Led} {v : Value} {r q : Rw} (N : News h₀ L h news) (hx : DatIn news v r.dat) (hy : DatIn news v q.dat) : r = q := by
  obtain ⟨a, n, t1, t2, t3, t4, rfl, hm⟩ := row_shape hx
  obtain ⟨b, n', u1, u2, u3, u4, e, hm'⟩ := row_shape hy
  injection e with e
  subst e
  exact rowVs_inj (seq_inj (led_one N hm hm'))

/- equality of data -/
section
open PySem.SeqAt
variable {A : Around} {s : Shared}

theorem eq_bytesAt (b : Array UInt8) (t : Tok) (c : Array UInt8) (u : Tok) : EqAt A s (.bytes b t) (.bytes c u) (decide (b = c)) := fun prog w E Q h => by
  unfold eqBool
  refine wpAny_holding ?_
  refine wpAny_ite_split (fun hab => ?_) (fun _ => ?_)
  · have e : b = c := by have := eq_of_beq hab; injection this
    subst e
    exact wpAny_bind (wpAny_rule (wpAny_pure (by simpa using h)))
  · have e : (b.toList == c.toList) = decide (b = c) := by
      rw [Bool.eq_iff_iff, beq_iff_eq, decide_eq_true_eq]
      exact Array.toList_inj
    have k : ∀ Q' : Value → Shared → Prop, Q' (.bool (b.toList == c.toList)) s → wpAny (model prog w) A (richCompare .Eq (.bytes b t) (.bytes c u)) Q' E s := fun Q' hq => eq_bytes hq
    exact wpAny_bind (k _ (wpAny_truthy_bool (by rw [e]; exact h)))

/-- made of none, ints, bytes, bools, lists, tuples, of depth n at most -/
def datOk : Nat → Dat → Bool
  | _, .none => true
  | _, .bool _ => true
  | _, .int _ => true
  | _, .bytes _ => true
  | n + 1, .tuple ds => ds.all (datOk n)
  | n + 1, .list ds => ds.all (datOk n)
  | _, _ => false

theorem eq_none_noneAt : EqAt A s .none .none true := EqAt.same _

/-- the same data, twice: equal -/
theorem dat_same {h₀ : Heap} {L : Addr} {news : Led} (N : News h₀ L s.heap news) : ∀ (n : Nat) (A : Around) (d : Dat) (x y : Value), datOk n d = true → A.units + n < cLine → DatIn news x d → DatIn news y d → EqAt A s x y true
  | n, A, .none, x, y, _, _, hx, hy => by cases hx; cases hy; exact EqAt.same _
  | n, A, .bool b, x, y, _, _, hx, hy => by cases hx; cases hy; exact EqAt.same _
  | n, A, .int i, x, y, _, _, hx, hy => by
    cases hx with | int _ t => cases hy with | int _ u =>
    have := EqAt.int_int (A := A) (s := s) i t i u
    simpa using this
  | n, A, .bytes b, x, y, _, _, hx, hy => by
    cases hx with | bytes _ t => cases hy with | bytes _ u =>
    have := eq_bytesAt (A := A) (s := s) b t b u
    simpa using this
  | 0, A, .tuple ds, x, y, hk, _, _, _ => by simp [datOk] at hk
  | 0, A, .list ds, x, y, hk, _, _, _ => by simp [datOk] at hk
  | n, A, .str _, x, y, hk, _, _, _ => by cases n <;> simp [datOk] at hk
  | n + 1, A, .tuple ds, x, y, hk, hu, hx, hy => by
    cases hx with
    | @tuple a vs k _ hm ha =>
    cases hy with
    | @tuple b us l _ hm' hb =>
    by_cases e : a = b
    · subst e; exact EqAt.same _
    · have hl : s.heap.IsTuple a vs.toArray := ⟨_, (N _ hm).1, rfl, _, rfl⟩
      have hl' : s.heap.IsTuple b us.toArray := ⟨_, (N _ hm').1, rfl, _, rfl⟩
      have l1 := ha.length
      have l2 := hb.length
      have hk' : ∀ d ∈ ds, datOk n d = true := by simpa [datOk] using hk
      have hu' : A.in1.units + n < cLine := by rw [units_in1]; omega
      have := RcAt.tuples (A := A) (s := s) (e := fun _ => true) hl hl' (by omega) (fun j h1 h2 => by
        have j1 : j < ds.length := by simpa [l1] using h1
        obtain ⟨v, e1, d1⟩ := ha.get j1
        obtain ⟨u, e2, d2⟩ := hb.get j1
        have f1 : vs.toArray[j] = v := by
          have : vs[j]? = some (vs.toArray[j]) := by simp
          rw [e1] at this; exact (Option.some.inj this).symm
        have f2 : us.toArray[j] = u := by
          have : us[j]? = some (us.toArray[j]) := by simp
          rw [e2] at this; exact (Option.some.inj this).symm
        rw [f1, f2]
        exact dat_same N n A.in1 _ v u (hk' _ (List.getElem_mem j1)) hu' d1 d2)
      refine EqAt.of_refs e ?_
      have e3 : ((List.range (min vs.toArray.size us.toArray.size)).all (fun _ => true) && vs.toArray.size == us.toArray.size) = true := by simp [l1, l2]
      rw [e3] at this
      exact this
  | n + 1, A, .list ds, x, y, hk, hu, hx, hy => by
    cases hx with
    | @list a vs k _ hm ha =>
    cases hy with
    | @list b us l _ hm' hb =>
    by_cases e : a = b
    · subst e; exact EqAt.same _
    · have hl : s.heap.IsList a vs.toArray := ⟨_, (N _ hm).1, rfl, _, rfl⟩
      have hl' : s.heap.IsList b us.toArray := ⟨_, (N _ hm').1, rfl, _, rfl⟩
      have l1 := ha.length
      have l2 := hb.length
      have hk' : ∀ d ∈ ds, datOk n d = true := by simpa [datOk] using hk
      have hu' : A.in1.units + n < cLine := by rw [units_in1]; omega
      have := RcAt.lists (A := A) (s := s) (e := fun _ => true) hl hl' (by simp [l1, l2]) (by omega) (fun j h1 h2 => by
        have j1 : j < ds.length := by simpa [l1] using h1
        obtain ⟨v, e1, d1⟩ := ha.get j1
        obtain ⟨u, e2, d2⟩ := hb.get j1
        have f1 : vs.toArray[j] = v := by
          have : vs[j]? = some (vs.toArray[j]) := by simp
          rw [e1] at this; exact (Option.some.inj this).symm
        have f2 : us.toArray[j] = u := by
          have : us[j]? = some (us.toArray[j]) := by simp
          rw [e2] at this; exact (Option.some.inj this).symm
        rw [f1, f2]
        exact dat_same N n A.in1 _ v u (hk' _ (List.getElem_mem j1)) hu' d1 d2)
      refine EqAt.of_refs e ?_
      have e3 : ((List.range vs.toArray.size).all (fun _ => true)) = true := by simp
      rw [e3] at this
      exact this

theorem dat_rcEq {h₀ : Heap} {L : Addr} {news : Led} (N : News h₀ L s.heap news) {n : Nat} {d : Dat} {a b : Addr} (hk : datOk n d = true) (hu : A.units + n + 2 < cLine) (hx : DatIn news (.ref a) d) (hy : DatIn news (.ref b) d) : RcAt A s (.ref a) (.ref b) true := by
  cases hx with
  | @tuple _ vs k ds hm ha =>
    cases hy with
    | @tuple _ us l _ hm' hb =>
    cases n with
    | zero => simp [datOk] at hk
    | succ n =>
    have hl : s.heap.IsTuple a vs.toArray := ⟨_, (N _ hm).1, rfl, _, rfl⟩
    have hl' : s.heap.IsTuple b us.toArray := ⟨_, (N _ hm').1, rfl, _, rfl⟩
    have l1 := ha.length
    have l2 := hb.length
    have hk' : ∀ d ∈ ds, datOk n d = true := by simpa [datOk] using hk
    have := RcAt.tuples (A := A) (s := s) (e := fun _ => true) hl hl' (by omega) (fun j h1 h2 => by
      have j1 : j < ds.length := by simpa [l1] using h1
      obtain ⟨v, e1, d1⟩ := ha.get j1
      obtain ⟨u, e2, d2⟩ := hb.get j1
      have f1 : vs.toArray[j] = v := by
        have : vs[j]? = some (vs.toArray[j]) := by simp
        rw [e1] at this; exact (Option.some.inj this).symm
      have f2 : us.toArray[j] = u := by
        have : us[j]? = some (us.toArray[j]) := by simp
        rw [e2] at this; exact (Option.some.inj this).symm
      rw [f1, f2]
      exact dat_same N n A.in1 _ v u (hk' _ (List.getElem_mem j1)) (by rw [units_in1]; omega) d1 d2)
    have e3 : ((List.range (min vs.toArray.size us.toArray.size)).all (fun _ => true) && vs.toArray.size == us.toArray.size) = true := by simp [l1, l2]
    rw [e3] at this
    exact this
  | @list _ vs k ds hm ha =>
    cases hy with
    | @list _ us l _ hm' hb =>
    cases n with
    | zero => simp [datOk] at hk
    | succ n =>
    have hl : s.heap.IsList a vs.toArray := ⟨_, (N _ hm).1, rfl, _, rfl⟩
    have hl' : s.heap.IsList b us.toArray := ⟨_, (N _ hm').1, rfl, _, rfl⟩
    have l1 := ha.length
    have l2 := hb.length
    have hk' : ∀ d ∈ ds, datOk n d = true := by simpa [datOk] using hk
    have := RcAt.lists (A := A) (s := s) (e := fun _ => true) hl hl' (by simp [l1, l2]) (by omega) (fun j h1 h2 => by
      have j1 : j < ds.length := by simpa [l1] using h1
      obtain ⟨v, e1, d1⟩ := ha.get j1
      obtain ⟨u, e2, d2⟩ := hb.get j1
      have f1 : vs.toArray[j] = v := by
        have : vs[j]? = some (vs.toArray[j]) := by simp
        rw [e1] at this; exact (Option.some.inj this).symm
      have f2 : us.toArray[j] = u := by
        have : us[j]? = some (us.toArray[j]) := by simp
        rw [e2] at this; exact (Option.some.inj this).symm
      rw [f1, f2]
      exact dat_same N n A.in1 _ v u (hk' _ (List.getElem_mem j1)) (by rw [units_in1]; omega) d1 d2)
    have e3 : ((List.range vs.toArray.size).all (fun _ => true)) = true := by simp
    rw [e3] at this
    exact this

theorem dat_rcNe {h₀ : Heap} {L : Addr} {news : Led} (N : News h₀ L s.heap news) {n : Nat} {d : Dat} {a b : Addr} (hk : datOk n d = true) (hu : A.units + n + 2 < cLine) (hx : DatIn news (.ref a) d) (hy : DatIn news (.ref b) d) : RcNeAt A s (.ref a) (.ref b) false := by
  cases hx with
  | @tuple _ vs k ds hm ha =>
    cases hy with
    | @tuple _ us l _ hm' hb =>
    cases n with
    | zero => simp [datOk] at hk
    | succ n =>
    have hl : s.heap.IsTuple a vs.toArray := ⟨_, (N _ hm).1, rfl, _, rfl⟩
    have hl' : s.heap.IsTuple b us.toArray := ⟨_, (N _ hm').1, rfl, _, rfl⟩
    have l1 := ha.length
    have l2 := hb.length
    have hk' : ∀ d ∈ ds, datOk n d = true := by simpa [datOk] using hk
    have := RcNeAt.tuples (A := A) (s := s) (e := fun _ => true) hl hl' (by omega) (fun j h1 h2 => by
      have j1 : j < ds.length := by simpa [l1] using h1
      obtain ⟨v, e1, d1⟩ := ha.get j1
      obtain ⟨u, e2, d2⟩ := hb.get j1
      have f1 : vs.toArray[j] = v := by
        have : vs[j]? = some (vs.toArray[j]) := by simp
        rw [e1] at this; exact (Option.some.inj this).symm
      have f2 : us.toArray[j] = u := by
        have : us[j]? = some (us.toArray[j]) := by simp
        rw [e2] at this; exact (Option.some.inj this).symm
      rw [f1, f2]
      exact dat_same N n A.in1 _ v u (hk' _ (List.getElem_mem j1)) (by rw [units_in1]; omega) d1 d2)
    have e3 : (!((List.range (min vs.toArray.size us.toArray.size)).all (fun _ => true) && vs.toArray.size == us.toArray.size)) = false := by simp [l1, l2]
    rw [e3] at this
    exact this
  | @list _ vs k ds hm ha =>
    cases hy with
    | @list _ us l _ hm' hb =>
    cases n with
    | zero => simp [datOk] at hk
    | succ n =>
    have hl : s.heap.IsList a vs.toArray := ⟨_, (N _ hm).1, rfl, _, rfl⟩
    have hl' : s.heap.IsList b us.toArray := ⟨_, (N _ hm').1, rfl, _, rfl⟩
    have l1 := ha.length
    have l2 := hb.length
    have hk' : ∀ d ∈ ds, datOk n d = true := by simpa [datOk] using hk
    have := RcNeAt.lists (A := A) (s := s) (e := fun _ => true) hl hl' (by simp [l1, l2]) (by omega) (fun j h1 h2 => by
      have j1 : j < ds.length := by simpa [l1] using h1
      obtain ⟨v, e1, d1⟩ := ha.get j1
      obtain ⟨u, e2, d2⟩ := hb.get j1
      have f1 : vs.toArray[j] = v := by
        have : vs[j]? = some (vs.toArray[j]) := by simp
        rw [e1] at this; exact (Option.some.inj this).symm
      have f2 : us.toArray[j] = u := by
        have : us[j]? = some (us.toArray[j]) := by simp
        rw [e2] at this; exact (Option.some.inj this).symm
      rw [f1, f2]
      exact dat_same N n A.in1 _ v u (hk' _ (List.getElem_mem j1)) (by rw [units_in1]; omega) d1 d2)
    have e3 : (!((List.range vs.toArray.size).all (fun _ => true))) = false := by simp
    rw [e3] at this
    exact this

/-- two rows -/
theorem row_eqAt {h₀ : Heap} {L : Addr} {news : Led} (N : News h₀ L s.heap news) {x y : Value} {r q : Rw} (hu : A.units + 4 < cLine) (hx : DatIn news x r.dat) (hy : DatIn news y q.dat) : EqAt A s x y (decide (r = q)) := by
  by_cases hrq : r = q
  · subst hrq
    rw [decide_eq_true rfl]
    exact dat_same N 1 A _ x y rfl (by omega) hx hy
  rw [decide_eq_false hrq]
  obtain ⟨a, k, t1, t2, t3, t4, rfl, hm⟩ := row_shape hx
  obtain ⟨b, l, u1, u2, u3, u4, rfl, hm'⟩ := row_shape hy
  have hl : s.heap.IsTuple a (rowVs r t1 t2 t3 t4).toArray := ⟨_, (N _ hm).1, rfl, _, rfl⟩
  have hl' : s.heap.IsTuple b (rowVs q u1 u2 u3 u4).toArray := ⟨_, (N _ hm').1, rfl, _, rfl⟩
  refine EqAt.of_refs (fun e => ?_) ?_
  · subst e
    exact hrq (rowVs_inj (seq_inj (led_one N hm hm')))
  · have := RcAt.tuples (A := A) (s := s) (e := fun j => match j with | 0 => r.t == q.t | 1 => r.i == q.i | 2 => (0 : Int) == 0 | _ => decide (r.d = q.d)) hl hl' (by omega) (fun j h1 h2 => by
      match j, h1, h2 with
      | 0, _, _ => exact EqAt.int_int _ _ _ _
      | 1, _, _ => exact EqAt.int_int _ _ _ _
      | 2, _, _ => exact EqAt.int_int _ _ _ _
      | 3, _, _ => exact eq_bytesAt _ _ _ _
      | j + 4, h, _ => exact absurd h (by simp))
    have e3 : ((List.range (min (rowVs r t1 t2 t3 t4).toArray.size (rowVs q u1 u2 u3 u4).toArray.size)).all (fun j => match j with | 0 => r.t == q.t | 1 => r.i == q.i | 2 => (0 : Int) == 0 | _ => decide (r.d = q.d)) && (rowVs r t1 t2 t3 t4).toArray.size == (rowVs q u1 u2 u3 u4).toArray.size) = false := by
      have : List.range 4 = [0, 1, 2, 3] := rfl
      simp only [List.size_toArray, List.length_cons, List.length_nil, Nat.reduceAdd, Nat.min_self, this, List.all_cons, List.all_nil, beq_self_eq_true, Bool.and_true, Bool.true_and]
      rw [Bool.eq_false_iff]
      intro h
      simp only [Bool.and_eq_true, beq_iff_eq, decide_eq_true_eq] at h
      exact hrq (by cases r; cases q; simp_all)
    rw [e3] at this
    exact this
end

section
variable {prog : Program} {w : World} {A : Around} {E : Value → Shared → Prop} {s : Shared} {h₀ : Heap} {L : Addr} {news : Led} {Q : Value → Shared → Prop}
theorem dat_eq {n : Nat} {d : Dat} {a b : Addr} (N : News h₀ L s.heap news) (hx : DatIn news (.ref a) d) (hy : DatIn news (.ref b) d) (hk : datOk n d = true) (hu : A.units + n + 2 < cLine) (h : Q (.bool true) s) : wpAny (model prog w) A (compareOp .Eq (.ref a) (.ref b)) Q E s :=
  dat_rcEq N hk hu hx hy prog w E Q h
theorem dat_ne {n : Nat} {d : Dat} {a b : Addr} (N : News h₀ L s.heap news) (hx : DatIn news (.ref a) d) (hy : DatIn news (.ref b) d) (hk : datOk n d = true) (hu : A.units + n + 2 < cLine) (h : Q (.bool false) s) : wpAny (model prog w) A (compareOp .NotEq (.ref a) (.ref b)) Q E s :=
  dat_rcNe N hk hu hx hy prog w E Q h
theorem row_in {l : Addr} {vs : List Value} {n : Nat} {rs : List Rw} {x : Value} {r : Rw} (N : News h₀ L s.heap news) (hl : (l, listOf vs.toArray n) ∈ news) (hv : DatAll news vs (rs.map Rw.dat)) (hx : DatIn news x r.dat) (hu : A.units + 8 < cLine)
    (h : Q (.bool (decide (r ∈ rs))) s) : wpAny (model prog w) A (compareOp .In x (.ref l)) Q E s := by
  have len := hv.length
  -- the boolean of each value
  have key : ∀ (vs : List Value) (rs : List Rw), DatAll news vs (rs.map Rw.dat) → ∃ e : Value → Bool, (∀ y ∈ vs, SeqAt.EqAt A.in1 s y x (e y)) ∧ vs.any e = decide (r ∈ rs) := by
    intro vs rs hv
    classical
    have one : ∀ (y : Value) (q : Rw), DatIn news y q.dat → decide (∃ q : Rw, DatIn news y q.dat ∧ q = r) = decide (q = r) := by
      intro y q hq
      by_cases e : q = r
      · rw [decide_eq_true e]; exact decide_eq_true ⟨q, hq, e⟩
      · rw [decide_eq_false e]
        refine decide_eq_false ?_
        rintro ⟨q', h1, e'⟩
        exact e ((row_one N hq h1).trans e')
    refine ⟨fun y => decide (∃ q : Rw, DatIn news y q.dat ∧ q = r), fun y hy => ?_, ?_⟩
    · have : ∃ q : Rw, DatIn news y q.dat := by
        clear hx h len one
        induction vs generalizing rs with
        | nil => cases hy
        | cons v vs ih =>
          cases rs with
          | nil => cases hv
          | cons q rs =>
            cases hv with
            | cons h1 h2 =>
              rcases List.mem_cons.mp hy with rfl | hy
              · exact ⟨q, h1⟩
              · exact ih rs h2 hy
      obtain ⟨q, hq⟩ := this
      show SeqAt.EqAt A.in1 s y x (decide (∃ q : Rw, DatIn news y q.dat ∧ q = r))
      rw [one y q hq]
      exact row_eqAt (A := A.in1) N (by rw [units_in1]; omega) hq hx
    · clear hx h len
      induction vs generalizing rs with
      | nil => cases rs with
        | nil => rfl
        | cons q rs => cases hv
      | cons v vs ih =>
        cases rs with
        | nil => cases hv
        | cons q rs =>
          cases hv with
          | cons h1 h2 =>
          rw [List.any_cons, ih rs h2, one v q h1]
          by_cases e : q = r
          · subst e; simp
          · have : ¬ r = q := fun x => e x.symm
            simp [e, this]
  obtain ⟨e, h1, h2⟩ := key vs rs hv
  refine SeqAt.in_listAt (items := vs.toArray) e ⟨_, (N _ hl).1, rfl, _, rfl⟩ (fun y hy => h1 y (by simpa using hy)) ?_
  have : vs.toArray.any e = vs.any e := by simp
  rw [this, h2]; exact h
end

end
section
/- rules over a ledger with letters in it -/
section
variable {prog : Program} {w : World} {A : Around} {E : Value → Shared → Prop} {s : Shared} {h₀ : Heap} {L l : Addr} {m : Str → Option Value} {news : Led} {vs us : List Value} {c c' : Nat}

theorem led_isList (N : News h₀ L s.heap news) (hm : (l, listOf vs.toArray c) ∈ news) : s.heap.IsList l vs.toArray := ⟨_, (N _ hm).1, rfl, c, rfl⟩
theorem led_len {Q : Value → Shared → Prop} (N : News h₀ L s.heap news) (hm : (l, listOf vs.toArray c) ∈ news) (hf : vs.length < 100000)
    (h : Q (.int (vs.length : Int) (s.toks + 1)) { s with toks := s.toks + 1 + 1 }) : wpAny (model prog w) A (call (.builtin "len") [.ref l]) Q E s := by
  have e2 : vs.toArray.size = vs.length := by rw [List.size_toArray]
  exact len_list (led_isList N hm) (by rw [e2]; omega) (by rw [e2]; exact h)
theorem led_item {value slice : PySem.Expr} {k : Int} {u : Tok} {Q : Value → Shared → Prop} (N : News h₀ L s.heap news) (hm : (l, listOf vs.toArray c) ∈ news) (h0 : 0 ≤ k) (h1 : k < (vs.length : Int)) (hf : vs.length < 100000)
    (hs : subscripted slice false (.ref l) (.int k u) = operate [.ref l, .int k u] (getItem (.ref l) (.int k u)))
    (h : ∀ v, vs[k.toNat]? = some v → Q v s) : wpAny (model prog w) A (subscriptTail value slice (.ref l) (.int k u)) Q E s := by
  have hk : k.toNat < vs.length := by omega
  have hx : vs[k.toNat]? = some (vs[k.toNat]'hk) := List.getElem?_eq_getElem hk
  exact tail_any (led_isList N hm).typeIs slot_list_getitem.lookup (wpAny_getItem_list (led_isList N hm) h0 (by omega) (by simpa using hx) (h _ hx)) hs
theorem led_item_neg {value slice : PySem.Expr} {k : Int} {u : Tok} {Q : Value → Shared → Prop} (N : News h₀ L s.heap news) (hm : (l, listOf vs.toArray c) ∈ news) (h0 : k < 0) (h1 : -(vs.length : Int) ≤ k) (hf : vs.length < 100000)
    (hs : subscripted slice false (.ref l) (.int k u) = operate [.ref l, .int k u] (getItem (.ref l) (.int k u)))
    (h : ∀ v, vs[(k + (vs.length : Int)).toNat]? = some v → Q v s) : wpAny (model prog w) A (subscriptTail value slice (.ref l) (.int k u)) Q E s := by
  have hk : (k + (vs.length : Int)).toNat < vs.length := by omega
  have hx : vs[(k + (vs.length : Int)).toNat]? = some (vs[(k + (vs.length : Int)).toNat]'hk) := List.getElem?_eq_getElem hk
  exact tail_any (led_isList N hm).typeIs slot_list_getitem.lookup (wpAny_getItem_list_neg (led_isList N hm) h0 (by simpa using h1) (by omega) (by simpa using hx) (h _ hx)) hs
theorem led_slice {value slice : PySem.Expr} {vl vu : Value} {lo hi : Option Int} {Q : Value → Shared → Prop} (F : Fr h₀ L s.heap m) (N : News h₀ L s.heap news) (hm : (l, listOf vs.toArray c) ∈ news) (pl : IsPart vl lo) (pu : IsPart vu hi) (hf : vs.length < 100000)
    (hs : subscripted slice false (.ref l) (.ref s.heap.objs.size) = operate [.ref s.heap.objs.size, .ref l] (getItem (.ref l) (.ref s.heap.objs.size))) (ht : ∀ r, letTemporaryGo value (.ref l) r = pure ())
    (h : ∀ D h', Fr h₀ L h' m → News h₀ L h' ((D, listOf (kms_pick vs lo hi).toArray 0) :: news) → (∀ p ∈ news, p.1 < D) → Q (.ref D) { s with heap := h' }) :
    wpAny (model prog w) A (subscriptTail value slice (.ref l) (.ref s.heap.objs.size)) Q E { s with heap := s.heap.push { cls := .type "slice", data := .fields #[vl, vu, .none] } } :=
  kms_slice_lit F N (led_isList N hm) pl pu rfl h hs ht (by rw [List.size_toArray, PySem.sizeLine_eq]; omega)
theorem led_add {b : Addr} {Q : Value → Shared → Prop} (F : Fr h₀ L s.heap m) (N : News h₀ L s.heap news) (hl : (l, listOf vs.toArray c) ∈ news) (hb : (b, listOf us.toArray c') ∈ news) (hf : vs.length < 100000) (hf' : us.length < 100000)
    (h : ∀ D h', Fr h₀ L h' m → News h₀ L h' ((D, listOf (vs ++ us).toArray 0) :: news) → (∀ p ∈ news, p.1 < D) → Q (.ref D) { s with heap := h' }) : wpAny (model prog w) A (binaryOp .Add (.ref l) (.ref b)) Q E s := by
  refine P.add_list (N _ hl).1 (N _ hb).1 ?_ (by rw [List.size_toArray, List.size_toArray, PySem.sizeLine_eq]; omega)
  have e : vs.toArray ++ us.toArray = (vs ++ us).toArray := by simp
  rw [e]
  exact h _ _ (F.push _) (N.push F _) fun p hp => Heap.lt_size (N p hp).1
end

theorem pick_from {vs : List Value} {x : Int} (h : 0 ≤ x) : kms_pick vs (some x) none = vs.drop x.toNat := by
  unfold kms_pick kms_lo kms_hi
  simp only [if_neg (show ¬ x < 0 by omega)]
  rw [kmk_drop_min]
  exact List.take_of_length_le (by rw [List.length_drop]; omega)
theorem pick_upto {vs : List Value} {y : Int} (h : 0 ≤ y) : kms_pick vs none (some y) = vs.take y.toNat := by
  unfold kms_pick kms_lo kms_hi
  simp only [if_neg (show ¬ y < 0 by omega), List.drop_zero, Nat.sub_zero]
  exact kmk_take_min _ _
theorem pick_all {vs : List Value} : kms_pick vs none none = vs := by
  unfold kms_pick kms_lo kms_hi
  simp
theorem pick_run {vs : List Value} {x y : Int} (h : 0 ≤ x) (h' : 0 ≤ y) : kms_pick vs (some x) (some y) = (vs.drop x.toNat).take (y.toNat - x.toNat) := by
  unfold kms_pick kms_lo kms_hi
  simp only [if_neg (show ¬ x < 0 by omega), if_neg (show ¬ y < 0 by omega)]
  rw [kmk_drop_min]
  apply List.ext_getElem?
  intro i
  simp only [List.getElem?_take, List.getElem?_drop]
  by_cases h1 : x.toNat ≤ vs.length
  · rw [Nat.min_eq_left h1]
    by_cases h2 : i < min y.toNat vs.length - x.toNat
    · rw [if_pos h2, if_pos (by omega)]
    · rw [if_neg h2]
      by_cases h3 : i < y.toNat - x.toNat
      · rw [if_pos h3, List.getElem?_eq_none (by omega)]
      · rw [if_neg h3]
  · rw [List.getElem?_eq_none (by omega)]
    simp

theorem ne_of_allLt {d : Addr} {l : Led} (h : AllLt d l) : ∀ p ∈ l, p.1 ≠ d := fun p hp => Nat.ne_of_lt (kst_ltOf h p hp)
theorem ne_of_ord {d : Addr} {o : Obj} {news tl : Led} (h : ∀ q ∈ news, ∀ p ∈ tl, q.1 < p.1) (hm : (d, o) ∈ news) : ∀ p ∈ tl, p.1 ≠ d := fun p hp e => Nat.lt_irrefl p.1 (e ▸ h _ hm p hp)

/- loops: what holds of the ledger, turn by turn; the names of «st» are forgotten -/
section
variable {prog : Program} {w : World} {A : Around} {E : Value → Shared → Prop} {s : Shared} {env : Env} {h₀ : Heap} {x : Str} {body : List Stmt} {Q : Flow → Shared → Prop}
def Kept (x : Str) (st : List Str) (m₀ m : Str → Option Value) : Prop := ∀ z, z ≠ x → st.contains z = false → m z = m₀ z
theorem kept_fr {L : Addr} {h : Heap} {st : List Str} {m₀ m₁ : Str → Option Value} {v : Value} (k : Kept x st m₀ m₁) (F : Fr h₀ L h (fun y => if y = x then some v else m₁ y)) :
    Fr h₀ L h (fun y => if y = x then some v else if st.contains y then m₁ y else m₀ y) := by
  have e : (fun y => if y = x then some v else if st.contains y then m₁ y else m₀ y) = fun y => if y = x then some v else m₁ y := by
    funext y
    by_cases h1 : y = x
    · rw [if_pos h1, if_pos h1]
    · rw [if_neg h1, if_neg h1]
      cases h2 : st.contains y with
      | true => simp
      | false => simp only [Bool.false_eq_true, if_false]; exact (k y h1 h2).symm
  rw [e]; exact F
theorem kept_out {L : Addr} {h : Heap} {st : List Str} {m₀ m₁ : Str → Option Value} (k : Kept x st m₀ m₁) (F : Fr h₀ L h m₁) :
    Fr h₀ L h (fun y => if y = x then m₁ y else if st.contains y then m₁ y else m₀ y) := by
  have e : (fun y => if y = x then m₁ y else if st.contains y then m₁ y else m₀ y) = m₁ := by
    funext y
    by_cases h1 : y = x
    · rw [if_pos h1]
    · rw [if_neg h1]
      cases h2 : st.contains y with
      | true => simp
      | false => simp only [Bool.false_eq_true, if_false]; exact (k y h1 h2).symm
  rw [e]; exact F

theorem it_list {l : Addr} {vs : List Value} {nn : Nat} {m₀ : Str → Option Value} {news : Led} (st : List Str) (J : Nat → Led → Prop)
    (hh : A.handled = none) (hl : (l, listOf vs.toArray nn) ∈ news) (F : Fr h₀ env.locals s.heap m₀) (N : News h₀ env.locals s.heap news) (hj : J 0 news)
    (turn : ∀ i v (u : Str → Option Value) nx h tk own, vs[i]? = some v → OwnOff own (nx.map (·.1)) → (l, listOf vs.toArray nn) ∈ nx → J i nx → Fr h₀ env.locals h (fun y => if y = x then some v else if st.contains y then u y else m₀ y) → News h₀ env.locals h (nx ++ own) →
      wpAny (model prog w) A (execs body env) (InvPostG h₀ env.locals (fun m' nx => (l, listOf vs.toArray nn) ∈ nx ∧ Kept x st m₀ m' ∧ J (i + 1) nx) own { s with heap := h, toks := tk } Q) E { s with heap := h, toks := tk })
    (done : ∀ (u : Str → Option Value) nx h tk, J vs.length nx → Fr h₀ env.locals h (fun y => if y = x then u y else if st.contains y then u y else m₀ y) → News h₀ env.locals h nx → Q .next { s with heap := h, toks := tk }) :
    wpAny (model prog w) A (pyIter (.ref l)) (fun it s₂ => LoopAtV prog w A h₀ env x body Q E it s₂) E s :=
  kdl_iter (fun i m nx => Kept x st m₀ m ∧ J i nx) hh hl F N ⟨fun _ _ _ => rfl, hj⟩
    (fun i v m₁ nx h tk own hv ho hm ⟨k, j⟩ F' N' => turn i v m₁ nx h tk own hv ho hm j (kept_fr k F') N')
    (fun m₁ nx h tk ⟨k, j⟩ F' N' => done m₁ nx h tk j (kept_out k F') N')

theorem it_range {r : Addr} {a₀ b₀ : Int} {t₀ u₀ v₀ : Tok} {n : Nat} {m₀ : Str → Option Value} {news : Led} (st : List Str) (J : Nat → (Str → Option Value) → Led → Prop)
    (hh : A.handled = none) (hr : IsRange s.heap r a₀ b₀ 1 t₀ u₀ v₀) (hsmall : Builtin.Range.small a₀ b₀ 1 = true) (hsz : Builtin.Range.rangeSize a₀ b₀ 1 = (n : Int)) (F : Fr h₀ env.locals s.heap m₀) (N : News h₀ env.locals s.heap news) (hj : J 0 m₀ news)
    (turn : ∀ i t (u : Str → Option Value) nx h tk own, i < n → OwnOff own (nx.map (·.1)) → J i u nx → Fr h₀ env.locals h (fun y => if y = x then some (.int (a₀ + (i : Int)) t) else if st.contains y then u y else m₀ y) → News h₀ env.locals h (nx ++ own) →
      wpAny (model prog w) A (execs body env) (InvPostG h₀ env.locals (fun m' nx => Kept x st m₀ m' ∧ J (i + 1) m' nx) own { s with heap := h, toks := tk } Q) E { s with heap := h, toks := tk })
    (done : ∀ (u : Str → Option Value) nx h tk, J n u nx → Fr h₀ env.locals h (fun y => if y = x then u y else if st.contains y then u y else m₀ y) → News h₀ env.locals h nx → Q .next { s with heap := h, toks := tk }) :
    wpAny (model prog w) A (pyIter (.ref r)) (fun it s₂ => LoopAtV prog w A h₀ env x body Q E it s₂) E s := by
  refine wpAny_pyIter_range hr hsmall ?_
  have W : Walks prog w A s.heap.objs.size [s.heap.objs.size] [s.heap.objs.size] n (fun i v => i < n ∧ ∃ t, v = .int (a₀ + i * 1) t)
      (fun i h => IsRangeIter h s.heap.objs.size (a₀ + (i : Nat) * 1) ((n : Int) - (i : Nat)) 1) := (Walks.range hh _ a₀ 1 n).bound
  refine kdr_loop (fun i m nx => Kept x st m₀ m ∧ J i m nx) W (fun _ h => h) (fun _ h => h) ?_ ?_ ?_ ?_ (by show IsRangeIter _ _ _ _ _; rw [hsz]; simpa using Heap.get?_push_size _ rfl) (F.push _) (fun p hp => ⟨Heap.get?_push_of_some _ (N p hp).1, (N p hp).2⟩) ⟨fun _ _ _ => rfl, hj⟩ ?_ ?_
  · intro i h hi b hb
    rw [List.mem_singleton.mp hb]
    exact ⟨_, hi⟩
  · intro hm
    exact absurd F.ns.lt ((List.mem_singleton.mp hm) ▸ Nat.lt_irrefl _)
  · intro b hb
    rw [List.mem_singleton.mp hb]
    exact next_is_new F
  · intro p hp hI
    exact absurd (Heap.lt_size (N p hp).1) ((List.mem_singleton.mp hI) ▸ Nat.lt_irrefl _)
  · rintro i v m₁ nx h tk own hi ⟨_, t, rfl⟩ hoff ⟨k, j⟩ F₁ N₁
    have e1 : a₀ + (i : Int) * 1 = a₀ + (i : Int) := by omega
    rw [e1] at F₁
    exact turn i t m₁ nx h tk own hi hoff j (kept_fr k F₁) N₁
  · rintro m₁ nx h tk ⟨k, j⟩ F₁ N₁
    exact done m₁ nx h tk j (kept_out k F₁) N₁
end

theorem led_in {a b : Addr × Obj} {news news' own : Led} (h : ∀ p ∈ news, p ∈ news') : ∀ p ∈ a :: b :: news, p ∈ a :: b :: (news' ++ own) := by
  intro p hp
  simp only [List.mem_append, List.mem_cons] at hp ⊢
  rcases hp with e | e | e
  · exact .inl e
  · exact .inr (.inl e)
  · exact .inr (.inr (.inl (h p e)))
theorem led_own {a b : Addr × Obj} {news own own' : Led} (h : ∀ p ∈ own, p ∈ own') : ∀ p ∈ own, p ∈ a :: b :: (news ++ own') := by
  intro p hp
  simp only [List.mem_append, List.mem_cons]
  exact .inr (.inr (.inr (h p hp)))
theorem units_under_make (A : Around) (C : Addr) (vals : List Value) (kw : List (Str × Value)) : (A.under (Code.builtin "type.__call__" ⟨.ref C :: vals, kw⟩)).units = A.units + 1 := rfl

end
section
/-- a call that changes nothing that stood -/
def Rd (k : Nat) (w : World) (p : Program) (loose : List Str) (mean : ExcName → Option Value) (mg mb : Str → Option Value) (f : Addr) (vs : List Value)
    (Pre : Led → Prop) (Out : Led → Led → Value → Prop) : Prop :=
  ∀ (dp un : Nat) (gd : Option (List Code)) (cn : Str) (cs : Scope) (a : Addr) (ccd : Value) (cl : List (Str × Addr)) (outer : List Env) (A₀ : Around) (base h₀ : Heap) (L : Addr) (m : Str → Option Value) (news : Led) (s : Shared)
    (Q E : Value → Shared → Prop),
    Below A₀ base outer h₀ → Fr h₀ L s.heap m → (hd.heap_1 w.params).In h₀ → News h₀ L s.heap news → Top p loose mean mg mb h₀ → cs.kind = .function → Pre news → dp + k < recursionLimit → un + 40 * k < cLine →
    (∀ r tl h' tk', Fr h₀ L h' m → News h₀ L h' (news ++ tl) → (∀ q ∈ news, ∀ p ∈ tl, q.1 < p.1) → Out news tl r → Q r { s with heap := h', toks := tk' }) →
    wpAny (model PySem.Challenge.rw_no0401_01.row.prog w) (ktrTop dp un gd cn cs L a ccd cl outer) (call (.ref f) vs) Q E s

/-- a call that changes one object -/
def Mu (k : Nat) (w : World) (p : Program) (loose : List Str) (mean : ExcName → Option Value) (mg mb : Str → Option Value) (f : Addr) (vs : List Value) (d : Addr) (o : Obj)
    (Pre : Led → Prop) (Out : Led → Led → Obj → Value → Prop) : Prop :=
  ∀ (dp un : Nat) (gd : Option (List Code)) (cn : Str) (cs : Scope) (a : Addr) (ccd : Value) (cl : List (Str × Addr)) (outer : List Env) (A₀ : Around) (base h₀ : Heap) (L : Addr) (m : Str → Option Value) (news : Led) (s : Shared)
    (Q E : Value → Shared → Prop),
    Below A₀ base outer h₀ → Fr h₀ L s.heap m → (hd.heap_1 w.params).In h₀ → News h₀ L s.heap ((d, o) :: news) → (∀ p ∈ news, p.1 ≠ d) → Top p loose mean mg mb h₀ → cs.kind = .function → Pre news → dp + k < recursionLimit → un + 40 * k < cLine →
    (∀ r tl o' h' tk', Fr h₀ L h' m → News h₀ L h' ((d, o') :: (news ++ tl)) → (∀ q ∈ (d, o) :: news, ∀ p ∈ tl, q.1 < p.1) → Out news tl o' r → Q r { s with heap := h', toks := tk' }) →
    wpAny (model PySem.Challenge.rw_no0401_01.row.prog w) (ktrTop dp un gd cn cs L a ccd cl outer) (call (.ref f) vs) Q E s

/-- the log's dict -/
abbrev lgD (h1 h2 h3 : Int) (t1 t2 t3 t4 : Tok) (sv : Value) (el : Addr) (off : Int) : Obj :=
  dictOf [⟨h1, .str "snapshot" t1, sv⟩, ⟨h2, .str "entries" t2, .ref el⟩, ⟨h3, .str "offset" t3, .int off t4⟩] 3
abbrev snD (h1 h2 h3 h4 : Int) (t1 t2 t3 t4 t5 t6 t8 : Tok) (i t : Int) (cf : Addr) (d : Array UInt8) : Obj :=
  dictOf [⟨h1, .str "index" t1, .int i t2⟩, ⟨h2, .str "term" t3, .int t t4⟩, ⟨h3, .str "conf" t5, .ref cf⟩, ⟨h4, .str "data" t6, .bytes d t8⟩] 4
abbrev cfD (h1 h2 h3 h4 h5 : Int) (t1 t2 t3 t4 t5 : Tok) (a b c d : Addr) : Obj :=
  dictOf [⟨h1, .str "voters" t1, .ref a⟩, ⟨h2, .str "learners" t2, .ref b⟩, ⟨h3, .str "outgoing" t3, .ref c⟩, ⟨h4, .str "learners_next" t4, .ref d⟩, ⟨h5, .str "auto_leave" t5, .bool false⟩] 5
abbrev enD (h1 h2 h3 h4 : Int) (t1 t2 t3 t4 t5 t6 t7 t8 : Tok) (r : Rw) : Obj :=
  dictOf [⟨h1, .str "term" t1, .int r.t t2⟩, ⟨h2, .str "index" t3, .int r.i t4⟩, ⟨h3, .str "kind" t5, .int 0 t6⟩, ⟨h4, .str "data" t7, .bytes r.d t8⟩] 4

structure Sn where
  i : Int
  t : Int
  d : Array UInt8
deriving DecidableEq

inductive ConfIn (news : Led) (cf : Addr) : Prop
  | mk (cdx a b c d : Addr) (h1 h2 h3 h4 h5 : Int) (t1 t2 t3 t4 t5 t6 : Tok) (n1 n2 n3 n4 : Nat) (m1 : (cf, instObj 229 cdx) ∈ news) (m2 : (cdx, cfD h1 h2 h3 h4 h5 t1 t2 t3 t4 t5 a b c d) ∈ news)
    (m3 : (a, listOf [Value.int 1 t6].toArray n1) ∈ news) (m4 : (b, listOf ([] : List Value).toArray n2) ∈ news) (m5 : (c, listOf ([] : List Value).toArray n3) ∈ news) (m6 : (d, listOf ([] : List Value).toArray n4) ∈ news)
inductive SnapAt (news : Led) (sn : Addr) (x : Sn) : Prop
  | mk (sdx cf : Addr) (h1 h2 h3 h4 : Int) (t1 t2 t3 t4 t5 t6 t8 : Tok) (m1 : (sn, instObj 271 sdx) ∈ news) (m2 : (sdx, snD h1 h2 h3 h4 t1 t2 t3 t4 t5 t6 t8 x.i x.t cf x.d) ∈ news) (m3 : ConfIn news cf)
def SnapIn (news : Led) (v : Value) : Option Sn → Prop
  | none => v = .none
  | some x => ∃ sn, v = .ref sn ∧ SnapAt news sn x
inductive EntAt (news : Led) (v : Value) (r : Rw) : Prop
  | mk (a dx : Addr) (h1 h2 h3 h4 : Int) (t1 t2 t3 t4 t5 t6 t7 t8 : Tok) (e : v = .ref a) (m1 : (a, instObj 194 dx) ∈ news) (m2 : (dx, enD h1 h2 h3 h4 t1 t2 t3 t4 t5 t6 t7 t8 r) ∈ news)
inductive EntAll (news : Led) : List Value → List Rw → Prop
  | nil : EntAll news [] []
  | cons {v vs r rs} : EntAt news v r → EntAll news vs rs → EntAll news (v :: vs) (r :: rs)
inductive LogAt (news : Led) (lg dx : Addr) (sv : Value) (el : Addr) (off : Int) : Prop
  | mk (h1 h2 h3 : Int) (t1 t2 t3 t4 : Tok) (m1 : (lg, instObj 138 dx) ∈ news) (m2 : (dx, lgD h1 h2 h3 t1 t2 t3 t4 sv el off) ∈ news)
inductive LogD (o : Obj) (sv : Value) (el : Addr) (off : Int) : Prop
  | mk (h1 h2 h3 : Int) (t1 t2 t3 t4 : Tok) (e : o = lgD h1 h2 h3 t1 t2 t3 t4 sv el off)

section
variable {news news' : Led} {v : Value} {vs : List Value} {r : Rw} {rs : List Rw} {x : Sn} {S : Option Sn} {sn cf : Addr}
theorem ConfIn.mono (hs : ∀ p ∈ news, p ∈ news') (h : ConfIn news cf) : ConfIn news' cf := by
  obtain ⟨cdx, a, b, c, d, h1, h2, h3, h4, h5, t1, t2, t3, t4, t5, t6, n1, n2, n3, n4, m1, m2, m3, m4, m5, m6⟩ := h
  exact ⟨cdx, a, b, c, d, h1, h2, h3, h4, h5, t1, t2, t3, t4, t5, t6, n1, n2, n3, n4, hs _ m1, hs _ m2, hs _ m3, hs _ m4, hs _ m5, hs _ m6⟩
theorem SnapAt.mono (hs : ∀ p ∈ news, p ∈ news') (h : SnapAt news sn x) : SnapAt news' sn x := by
  obtain ⟨sdx, cf, h1, h2, h3, h4, t1, t2, t3, t4, t5, t6, t8, m1, m2, m3⟩ := h
  exact ⟨sdx, cf, h1, h2, h3, h4, t1, t2, t3, t4, t5, t6, t8, hs _ m1, hs _ m2, m3.mono hs⟩
theorem SnapIn.mono (hs : ∀ p ∈ news, p ∈ news') (h : SnapIn news v S) : SnapIn news' v S := by
  cases S with
  | none => exact h
  | some x => obtain ⟨sn, e, h⟩ := h; exact ⟨sn, e, h.mono hs⟩
theorem EntAt.mono (hs : ∀ p ∈ news, p ∈ news') (h : EntAt news v r) : EntAt news' v r := by
  obtain ⟨a, dx, h1, h2, h3, h4, t1, t2, t3, t4, t5, t6, t7, t8, e, m1, m2⟩ := h
  exact ⟨a, dx, h1, h2, h3, h4, t1, t2, t3, t4, t5, t6, t7, t8, e, hs _ m1, hs _ m2⟩
theorem EntAll.mono (hs : ∀ p ∈ news, p ∈ news') : ∀ {vs : List Value} {rs : List Rw}, EntAll news vs rs → EntAll news' vs rs
  | _, _, .nil => .nil
  | _, _, .cons a b => .cons (a.mono hs) (b.mono hs)
theorem EntAll.length : ∀ {vs : List Value} {rs : List Rw}, EntAll news vs rs → vs.length = rs.length
  | _, _, .nil => rfl
  | _, _, .cons _ h => by rw [List.length_cons, List.length_cons, h.length]
theorem EntAll.get : ∀ {vs : List Value} {rs : List Rw} {k : Nat} {v : Value}, EntAll news vs rs → vs[k]? = some v → ∃ r, rs[k]? = some r ∧ EntAt news v r
  | _, _, 0, _, .cons h _, e => by cases e; exact ⟨_, rfl, h⟩
  | _, _, k + 1, _, .cons _ h, e => EntAll.get (k := k) h (by simpa using e)
theorem EntAll.append : ∀ {vs us : List Value} {rs qs : List Rw}, EntAll news vs rs → EntAll news us qs → EntAll news (vs ++ us) (rs ++ qs)
  | _, _, _, _, .nil, h => h
  | _, _, _, _, .cons a b, h => .cons a (b.append h)
theorem EntAll.drop : ∀ {vs : List Value} {rs : List Rw} (k : Nat), EntAll news vs rs → EntAll news (vs.drop k) (rs.drop k)
  | _, _, 0, h => h
  | _, _, _ + 1, .nil => .nil
  | _, _, k + 1, .cons _ h => h.drop k
theorem EntAll.take : ∀ {vs : List Value} {rs : List Rw} (k : Nat), EntAll news vs rs → EntAll news (vs.take k) (rs.take k)
  | _, _, 0, _ => .nil
  | _, _, _ + 1, .nil => .nil
  | _, _, k + 1, .cons a h => .cons a (h.take k)
end
theorem sub_nil {B : Led} : ∀ p ∈ ([] : Led), p ∈ B := fun _ h => nomatch h
theorem sub_cons {a : Addr × Obj} {l B : Led} (h : a ∈ B) (k : ∀ p ∈ l, p ∈ B) : ∀ p ∈ a :: l, p ∈ B := List.forall_mem_cons.mpr ⟨h, k⟩
theorem sub_app {l l' B : Led} (h : ∀ p ∈ l, p ∈ B) (k : ∀ p ∈ l', p ∈ B) : ∀ p ∈ l ++ l', p ∈ B := List.forall_mem_append.mpr ⟨h, k⟩
theorem sub_tail {a : Addr × Obj} {l B : Led} (h : ∀ p ∈ l, p ∈ B) : ∀ p ∈ l, p ∈ a :: B := fun p hp => .tail _ (h p hp)
theorem sub_left {l B C : Led} (h : ∀ p ∈ l, p ∈ B) : ∀ p ∈ l, p ∈ B ++ C := fun p hp => List.mem_append_left _ (h p hp)
theorem sub_right {l B C : Led} (h : ∀ p ∈ l, p ∈ C) : ∀ p ∈ l, p ∈ B ++ C := fun p hp => List.mem_append_right _ (h p hp)
theorem sub_refl {l : Led} : ∀ p ∈ l, p ∈ l := fun _ h => h
theorem look_skip {x a : Str} {v r : Option Value} {m : Str → Option Value} (h : x ≠ a) (k : m x = r) : (if x = a then v else m x) = r := (if_neg h).trans k
theorem led_left {news tl : Led} : ∀ p ∈ news, p ∈ news ++ tl := fun _ h => List.mem_append.mpr (.inl h)
theorem led_right {news tl : Led} : ∀ p ∈ tl, p ∈ news ++ tl := fun _ h => List.mem_append.mpr (.inr h)
theorem led_cons {news : Led} {q : Addr × Obj} : ∀ p ∈ news, p ∈ q :: news := fun _ h => .tail _ h
inductive RowAt (news : Led) (v : Value) (r : Rw) : Prop
  | mk (a : Addr) (n : Nat) (t1 t2 t3 t4 : Tok) (e : v = .ref a) (m : (a, ({ cls := .type "tuple", data := .seq (rowVs r t1 t2 t3 t4).toArray n } : Obj)) ∈ news)
theorem rows_get {news : Led} : ∀ {vs : List Value} {rs : List Rw} {k : Nat} {v : Value}, DatAll news vs (rs.map Rw.dat) → vs[k]? = some v → ∃ r, rs[k]? = some r ∧ RowAt news v r
  | v :: vs, [], 0, _, h, _ => by cases h
  | v :: vs, r :: rs, 0, _, h, e => by
    cases h with
    | cons h _ => cases e; obtain ⟨a, n, t1, t2, t3, t4, e, m⟩ := row_shape h; exact ⟨r, rfl, a, n, t1, t2, t3, t4, e, m⟩
  | v :: vs, [], k + 1, _, h, _ => by cases h
  | v :: vs, r :: rs, k + 1, _, h, e => by
    cases h with
    | cons _ h => exact rows_get (k := k) h (by simpa using e)

section
variable {k : Nat} {w : World} {p : Program} {loose : List Str} {mean : ExcName → Option Value} {mg mb : Str → Option Value} {f : Addr} {vs : List Value} {Pre : Led → Prop}
    {dp un : Nat} {gd : Option (List Code)} {cn : Str} {cs : Scope} {a : Addr} {ccd : Value} {cl : List (Str × Addr)} {outer : List Env} {A₀ : Around} {base h₀ : Heap} {L : Addr} {m : Str → Option Value} {news : Led} {s : Shared} {Q E : Value → Shared → Prop}
theorem rd_use {Out : Led → Led → Value → Prop} (C : Rd k w p loose mean mg mb f vs Pre Out) (B : Below A₀ base outer h₀) (F : Fr h₀ L s.heap m) (X : (hd.heap_1 w.params).In h₀) (N : News h₀ L s.heap news) (T : Top p loose mean mg mb h₀) (hk : cs.kind = .function) (hp : Pre news) (hd : dp + k < recursionLimit) (hu : un + 40 * k < cLine)
    (ret : ∀ r tl h' tk', Fr h₀ L h' m → News h₀ L h' (news ++ tl) → (∀ q ∈ news, ∀ p ∈ tl, q.1 < p.1) → Out news tl r → Q r { s with heap := h', toks := tk' }) :
    wpAny (model PySem.Challenge.rw_no0401_01.row.prog w) (ktrTop dp un gd cn cs L a ccd cl outer) (call (.ref f) vs) Q E s := C _ _ _ _ _ _ _ _ _ _ _ _ _ _ _ _ _ _ B F X N T hk hp hd hu ret
theorem mu_use {d : Addr} {o : Obj} {Out : Led → Led → Obj → Value → Prop} (C : Mu k w p loose mean mg mb f vs d o Pre Out) (B : Below A₀ base outer h₀) (F : Fr h₀ L s.heap m) (X : (hd.heap_1 w.params).In h₀) (N : News h₀ L s.heap ((d, o) :: news)) (hn : ∀ p ∈ news, p.1 ≠ d) (T : Top p loose mean mg mb h₀) (hk : cs.kind = .function) (hp : Pre news) (hd : dp + k < recursionLimit) (hu : un + 40 * k < cLine)
    (ret : ∀ r tl o' h' tk', Fr h₀ L h' m → News h₀ L h' ((d, o') :: (news ++ tl)) → (∀ q ∈ (d, o) :: news, ∀ p ∈ tl, q.1 < p.1) → Out news tl o' r → Q r { s with heap := h', toks := tk' }) :
    wpAny (model PySem.Challenge.rw_no0401_01.row.prog w) (ktrTop dp un gd cn cs L a ccd cl outer) (call (.ref f) vs) Q E s := C _ _ _ _ _ _ _ _ _ _ _ _ _ _ _ _ _ _ B F X N hn T hk hp hd hu ret
end
theorem EntAll.up {news news' : Led} {vs : List Value} {rs : List Rw} (h : EntAll news vs rs) (hs : ∀ p ∈ news, p ∈ news') : EntAll news' vs rs := h.mono hs
theorem SnapIn.up {news news' : Led} {v : Value} {S : Option Sn} (h : SnapIn news v S) (hs : ∀ p ∈ news, p ∈ news') : SnapIn news' v S := h.mono hs
theorem EntAt.up {news news' : Led} {v : Value} {r : Rw} (h : EntAt news v r) (hs : ∀ p ∈ news, p ∈ news') : EntAt news' v r := h.mono hs
theorem datAll_up {news news' : Led} {vs : List Value} {ds : List Dat} (h : DatAll news vs ds) (hs : ∀ p ∈ news, p ∈ news') : DatAll news' vs ds := h.mono hs
theorem datIn_up {news news' : Led} {v : Value} {d : Dat} (h : DatIn news v d) (hs : ∀ p ∈ news, p ∈ news') : DatIn news' v d := h.mono hs
def RowsOk (rs : List Rw) (base : Int) : Prop := ∀ (k : Nat) (r : Rw), rs[k]? = some r → r.i = base + (k : Int) ∧ 1 ≤ r.t ∧ r.t < 500
theorem RowsOk.use {rs : List Rw} {base : Int} {k : Nat} {r : Rw} (hr : rs[k]? = some r) (h : RowsOk rs base) : r.i = base + (k : Int) ∧ 1 ≤ r.t ∧ r.t < 500 := h k r hr

end
local macro_rules | `(tactic| walk_at "al") => `(tactic| (intro D' h' F' N' l1; (try k_lt l1); (try k_sweep)))
local macro_rules | `(tactic| walk_at "it") => `(tactic| (intro v9 hv9; first
  | (obtain ⟨r9, hr9, a9, dx9, h91, h92, h93, h94, t91, t92, t93, t94, t95, t96, t97, t98, e9, m91, m92⟩ := EntAll.get (by assumption) hv9; subst e9; clear hv9)
  | (obtain ⟨r9, hr9, a9, n9, t91, t92, t93, t94, e9, m91⟩ := rows_get (by assumption) hv9; subst e9; clear hv9; (try obtain ⟨hq91, hq92, hq93⟩ := RowsOk.use hr9 (by assumption)))))
local macro_rules | `(tactic| walk_at "nz") => `(tactic| ((with_reducible rename News _ _ _ _ => N8); (try simp only [List.cons_append, List.append_assoc, List.nil_append, List.append_nil] at N8); (try k_fold)))
local macro_rules | `(tactic| k_all) => `(tactic| first | assumption | exact ne_of_allLt (by assumption))
local macro_rules | `(tactic| k_mem) => `(tactic| first | exact List.mem_cons_self | (refine List.mem_cons_of_mem _ ?_; k_mem))
local macro_rules | `(tactic| k_all) => `(tactic| ((rename KstMark => hMk9); exact ne_of_ord (by assumption) (by k_mem)))
local macro_rules | `(tactic| k_room) => `(tactic| ktr_room)
local macro_rules | `(tactic| k_units) => `(tactic| ktr_units)
local macro_rules | `(tactic| ke_room) => `(tactic| ktr_units)
local macro_rules | `(tactic| ktr_units) => `(tactic| (have hcL9 := cLine_is; (try simp only [units_under_make, units_in1, units_deeper, Around.mark_units, units_caller] at *); (try dsimp only [ktrTop] at *); omega))
local macro_rules | `(tactic| size_fits) => `(tactic| (simp only [List.size_toArray, List.length_append, List.length_cons, List.length_nil, PySem.sizeLine_eq]; omega))
local macro_rules | `(tactic| walk_at "call ref") => `(tactic| k_extra "L call ref")
local macro_rules | `(tactic| walk_at "call builtin:len") => `(tactic| k_extra "L call builtin:len")
local macro_rules | `(tactic| walk_at "call builtin:list.append") => `(tactic| k_extra "L call builtin:list.append")
local macro_rules | `(tactic| walk_at "call builtin:list.pop") => `(tactic| k_extra "L call builtin:list.pop")
local macro_rules | `(tactic| walk_at "call type:tuple") => `(tactic| k_extra "L call type:tuple")
local macro_rules | `(tactic| walk_at "subscriptTail") => `(tactic| k_extra "L subscriptTail")
local macro_rules | `(tactic| walk_at "subscriptTail Name Slice ref ref") => `(tactic| k_extra "L subscriptTail Name Slice ref ref")
local macro_rules | `(tactic| walk_at "binaryOp Add") => `(tactic| k_extra "L binaryOp Add")
local macro_rules | `(tactic| walk_at "binaryOp Add ref ref") => `(tactic| k_extra "L binaryOp Add ref ref")
local macro_rules | `(tactic| walk_at "pyIter ref") => `(tactic| k_extra "L pyIter ref")
local macro_rules | `(tactic| walk_at "CompSrc") => `(tactic| k_extra "L CompSrc")
local macro_rules | `(tactic| walk_at "eval ListComp") => `(tactic| k_extra "L eval ListComp")
local macro_rules | `(tactic| walk_at "compareOp NotEq ref ref") => `(tactic| k_extra "L compareOp NotEq ref ref")
local macro_rules | `(tactic| walk_at "compareOp Eq ref ref") => `(tactic| k_extra "L compareOp Eq ref ref")
local macro_rules | `(tactic| walk_at "compareOp In ref ref") => `(tactic| k_extra "L compareOp In ref ref")
local macro_rules | `(tactic| walk_at "execs cons") => `(tactic| k_extra "L execs cons")
local macro_rules | `(tactic| walk_at "exec While Compare cons nil") => `(tactic| k_extra "L exec While Compare cons nil")
local macro_rules | `(tactic| walk_at "exec Try") => `(tactic| k_extra "L exec Try")
local macro_rules | `(tactic| walk_at "And") => `(tactic| k_extra "L And")
local macro_rules | `(tactic| walk_at "joinParts") => `(tactic| k_extra "L joinParts")
local macro_rules | `(tactic| walk_at "ite") => `(tactic| k_extra "L ite")
local macro_rules | `(tactic| walk_at "subscriptTail Name Constant ref int") => `(tactic| k_extra "L subscriptTail Name Constant ref int")
local macro_rules | `(tactic| walk_at "subscriptTail Name Name ref int") => `(tactic| k_extra "L subscriptTail Name Name ref int")
local macro_rules | `(tactic| walk_at "subscriptTail Name BinOp ref int") => `(tactic| k_extra "L subscriptTail Name BinOp ref int")
local macro_rules | `(tactic| walk_at "subscriptTail Name UnaryOp ref int") => `(tactic| k_extra "L subscriptTail Name UnaryOp ref int")
local macro_rules | `(tactic| walk_at "subscriptTail Subscript Name Constant Constant ref int") => `(tactic| k_extra "L subscriptTail Subscript Name Constant Constant ref int")
local macro_rules | `(tactic| walk_at "subscriptTail Subscript Name UnaryOp Constant ref int") => `(tactic| k_extra "L subscriptTail Subscript Name UnaryOp Constant ref int")

section
theorem reg_D_small : True := by
  k_with_none
  k_with "som" => ((try simp only [List.length_append, List.length_take, List.length_drop, List.length_cons, List.length_nil]); omega)
  k_with "mem9" => first | with_reducible exact List.mem_cons_self | (with_reducible refine List.mem_cons_of_mem _ ?_; walk_at "mem9") | (with_reducible refine List.mem_append_left _ ?_; walk_at "mem9") | (with_reducible refine List.mem_append_right _ ?_; walk_at "mem9") | with_reducible assumption
  k_with "q9" => first | with_reducible exact sub_refl | (with_reducible refine sub_tail ?_; walk_at "q9") | (with_reducible refine sub_left ?_; walk_at "q9") | (with_reducible refine sub_right ?_; walk_at "q9") | with_reducible assumption
  k_with "p9" => first | with_reducible exact sub_nil | (with_reducible refine sub_cons ?_ ?_; walk_at "mem9"; walk_at "p9") | (with_reducible refine sub_app ?_ ?_; walk_at "p9"; walk_at "p9") | walk_at "q9"
  k_with "L call builtin:len" => (k_here; (with_reducible show wpAny _ _ (call (Value.builtin "len") [Value.ref _]) _ _ _); k_dflt (refine led_len (by k_asm) (by k_mem) (by walk_at "som") ?_; k_whole))
  k_with "L subscriptTail" => ((k_here; (with_reducible show wpAny _ _ (subscriptTail _ _ (Value.ref _) (Value.int _ _)) _ _ _); k_dflt (refine led_item (by k_asm) (by k_mem) (by omega) (by walk_at "som") (by walk_at "som") (by with_unfolding_all rfl) ?_; k_whole)); first | walk_at "it" | (intro _ _))
  k_with "L subscriptTail" => ((k_here; (with_reducible show wpAny _ _ (subscriptTail _ (PySem.Expr.Slice _ _ none _) (Value.ref _) (Value.ref _)) _ _ _); k_dflt (refine led_slice (by k_asm) (by k_asm) (by k_mem) (by kmk_part) (by kmk_part) (by walk_at "som") (by with_unfolding_all rfl) (by kmk_pure) ?_; k_whole)); walk_at "al")
  k_with "L binaryOp Add" => ((k_here; (with_reducible show wpAny _ _ (binaryOp _ (Value.ref _) (Value.ref _)) _ _ _); k_dflt (refine led_add (by k_asm) (by k_asm) (by k_mem) (by k_mem) (by walk_at "som") (by walk_at "som") ?_; k_whole)); walk_at "al")
  k_with "L binaryOp Add ref ref" => ((k_here; (with_reducible show wpAny _ _ (binaryOp _ (Value.ref _) (Value.ref _)) _ _ _); k_dflt (refine led_add (by k_asm) (by k_asm) (by k_mem) (by k_mem) (by walk_at "som") (by walk_at "som") ?_; k_whole)); walk_at "al")
  k_with "L call builtin:list.append" => ((with_reducible show wpAny _ _ (call (Value.builtin _) ([_] ++ _)) _ _ _); dsimp only [List.cons_append, List.nil_append])
  k_with "L call type:tuple" => ((k_here; (with_reducible show wpAny _ _ (call (Value.type "tuple") [Value.ref _]) _ _ _); k_dflt (refine kde_tupleOf (by k_asm) (by k_asm) (by exact led_isList (by assumption) (by k_mem)) (by (simp only [List.size_toArray, List.length_drop, List.length_take]; omega)) (by exact List.toList_toArray ..) ?_)); intro _ _ _ _ _; (try k_fold))
  trivial
section
variable {w : World} {p : Program} {loose : List Str} {mean : ExcName → Option Value} {mg mb : Str → Option Value}

set_option maxHeartbeats 8000000 in
theorem c_first {lg dx el : Addr} {sv : Value} {off : Int} {S : Option Sn} :
   Rd 2 w p loose mean mg mb 79 [.ref lg] (fun news => LogAt news lg dx sv el off ∧ SnapIn news sv S ∧ ∀ x, S = some x → 0 ≤ x.i ∧ x.i < 1000)
     (fun _ tl r => tl = [] ∧ match S with | none => r = .none | some x => ∃ tk, r = .int (x.i+1) tk) := by
  unfold Rd
  k_fill
  intro dp un gd cn cs a ccd cl outer A₀ base h₀ L m news s Q E B F X N T hk hR hd hu hret
  obtain ⟨⟨h1, h2, h3, t1, t2, t3, t4, m1, m2⟩, hS, hb⟩ := hR
  cases S with
  | none =>
    simp only [SnapIn] at hS
    subst hS
    refine wpAny_call ?_
    k_dflt ktr_enter
    k_steps
    exact hret _ [] _ _ (by assumption) (ktn_tl0 (by assumption)) ktn_ord0 ⟨rfl, rfl⟩
  | some x =>
    simp only [SnapIn] at hS
    obtain ⟨sn, rfl, sdx, cf, g1, g2, g3, g4, u1, u2, u3, u4, u5, u6, u8, m3, m4, m5⟩ := hS
    obtain ⟨b1, b2⟩ := hb x rfl
    refine wpAny_call ?_
    k_dflt ktr_enter
    k_steps
    exact hret _ [] _ _ (by assumption) (ktn_tl0 (by assumption)) ktn_ord0 ⟨rfl, _, rfl⟩

set_option maxHeartbeats 8000000 in
theorem c_last {lg dx el : Addr} {n : Nat} {vs : List Value} {rs : List Rw} {sv : Value} {off : Int} {S : Option Sn} :
   Rd 2 w p loose mean mg mb 86 [.ref lg] (fun news => LogAt news lg dx sv el off ∧ (el, listOf vs.toArray n) ∈ news ∧ EntAll news vs rs ∧ SnapIn news sv S ∧ 0 ≤ off ∧ off < 1000 ∧ rs.length < 1000)
     (fun _ tl r => tl = [] ∧ if 0 < rs.length then ∃ tk, r = .int (off + rs.length - 1) tk else match S with | none => r = .none | some _ => ∃ tk, r = .int (off - 1) tk) := by
  unfold Rd
  k_fill
  intro dp un gd cn cs a ccd cl outer A₀ base h₀ L m news s Q E B F X N T hk hR hd hu hret
  obtain ⟨⟨h1, h2, h3, t1, t2, t3, t4, m1, m2⟩, ml, hv, hS, b1, b2, b3⟩ := hR
  have len := hv.length
  cases S with
  | none =>
    simp only [SnapIn] at hS
    subst hS
    refine wpAny_call ?_
    k_dflt ktr_enter
    k_steps
    all_goals (refine hret _ [] _ _ (by assumption) (ktn_tl0 (by assumption)) ktn_ord0 ⟨rfl, ?_⟩; first | (rw [if_pos (by omega)]; exact ⟨_, by rw [len]⟩) | (rw [if_neg (by omega)]))
  | some x =>
    simp only [SnapIn] at hS
    obtain ⟨sn, rfl, sdx, cf, g1, g2, g3, g4, u1, u2, u3, u4, u5, u6, u8, m3, m4, m5⟩ := hS
    refine wpAny_call ?_
    k_dflt ktr_enter
    k_steps
    all_goals (refine hret _ [] _ _ (by assumption) (ktn_tl0 (by assumption)) ktn_ord0 ⟨rfl, ?_⟩; first | (rw [if_pos (by omega)]; exact ⟨_, by rw [len]⟩) | (rw [if_neg (by omega)]; exact ⟨_, rfl⟩))

/-- the term that the log tells at i -/
def termAt (rs : List Rw) (off : Int) (S : Option Sn) (i : Int) : Option Int :=
  if i < off then (match S with | none => none | some x => if x.i = i then some x.t else none)
  else if i ≥ off + rs.length then none else (rs[(i - off).toNat]?).map (·.t)
def isOpt (r : Value) : Option Int → Prop
  | none => r = .none
  | some t => ∃ tk, r = .int t tk

set_option maxHeartbeats 8000000 in
theorem c_term {lg dx el : Addr} {n : Nat} {vs : List Value} {rs : List Rw} {sv : Value} {off : Int} {S : Option Sn} {i : Int} {ti : Tok} :
   Rd 2 w p loose mean mg mb 93 [.ref lg, .int i ti] (fun news => LogAt news lg dx sv el off ∧ (el, listOf vs.toArray n) ∈ news ∧ EntAll news vs rs ∧ SnapIn news sv S ∧ 0 ≤ off ∧ off < 1000 ∧ rs.length < 1000 ∧ -1000 < i ∧ i < 1000)
     (fun _ tl r => tl = [] ∧ isOpt r (termAt rs off S i)) := by
  unfold Rd
  k_fill
  intro dp un gd cn cs a ccd cl outer A₀ base h₀ L m news s Q E B F X N T hk hR hd hu hret
  obtain ⟨⟨h1, h2, h3, t1, t2, t3, t4, m1, m2⟩, ml, hv, hS, b1, b2, b3, b4, b5⟩ := hR
  have len := hv.length
  have get : ∀ {k : Nat} {v : Value}, vs[k]? = some v → ∃ r, rs[k]? = some r ∧ EntAt news v r := fun h => hv.get h
  cases S with
  | none =>
    simp only [SnapIn] at hS
    subst hS
    refine wpAny_call ?_
    k_dflt ktr_enter
    k_steps
    all_goals (refine hret _ [] _ _ (by assumption) (ktn_tl0 (by assumption)) ktn_ord0 ⟨rfl, ?_⟩; first
      | (rw [termAt, if_pos (by omega)]; exact rfl)
      | (rw [termAt, if_neg (by omega), if_pos (by omega)]; exact rfl)
      | (rw [termAt, if_neg (by omega), if_neg (by omega), ‹rs[(_ : Nat)]? = some _›]; exact ⟨_, rfl⟩))
  | some x =>
    simp only [SnapIn] at hS
    obtain ⟨sn, rfl, sdx, cf, g1, g2, g3, g4, u1, u2, u3, u4, u5, u6, u8, m3, m4, m5⟩ := hS
    refine wpAny_call ?_
    k_dflt ktr_enter
    k_steps
    all_goals (refine hret _ [] _ _ (by assumption) (ktn_tl0 (by assumption)) ktn_ord0 ⟨rfl, ?_⟩; first
      | (simp only [termAt, if_pos ‹i < off›, if_pos ‹x.i = i›, isOpt]; exact ⟨_, rfl⟩)
      | (simp only [termAt, if_pos ‹i < off›, if_neg ‹x.i ≠ i›, isOpt])
      | (rw [termAt, if_neg (by omega), if_pos (by omega)]; exact rfl)
      | (rw [termAt, if_neg (by omega), if_neg (by omega), ‹rs[(_ : Nat)]? = some _›]; exact ⟨_, rfl⟩))
end

end
section
theorem reg_E_log : True := by
  k_with_none
  k_with "som" => ((try simp only [List.length_append, List.length_take, List.length_drop, List.length_cons, List.length_nil]); omega)
  k_with "mem9" => first | with_reducible exact List.mem_cons_self | (with_reducible refine List.mem_cons_of_mem _ ?_; walk_at "mem9") | (with_reducible refine List.mem_append_left _ ?_; walk_at "mem9") | (with_reducible refine List.mem_append_right _ ?_; walk_at "mem9") | with_reducible assumption
  k_with "q9" => first | with_reducible exact sub_refl | (with_reducible refine sub_tail ?_; walk_at "q9") | (with_reducible refine sub_left ?_; walk_at "q9") | (with_reducible refine sub_right ?_; walk_at "q9") | with_reducible assumption
  k_with "p9" => first | with_reducible exact sub_nil | (with_reducible refine sub_cons ?_ ?_; walk_at "mem9"; walk_at "p9") | (with_reducible refine sub_app ?_ ?_; walk_at "p9"; walk_at "p9") | walk_at "q9"
  k_with "L call builtin:len" => (k_here; (with_reducible show wpAny _ _ (call (Value.builtin "len") [Value.ref _]) _ _ _); k_dflt (refine led_len (by k_asm) (by k_mem) (by walk_at "som") ?_; k_whole))
  k_with "L subscriptTail" => ((k_here; (with_reducible show wpAny _ _ (subscriptTail _ _ (Value.ref _) (Value.int _ _)) _ _ _); k_dflt (refine led_item (by k_asm) (by k_mem) (by omega) (by walk_at "som") (by walk_at "som") (by with_unfolding_all rfl) ?_; k_whole)); first | walk_at "it" | (intro _ _))
  k_with "L subscriptTail" => ((k_here; (with_reducible show wpAny _ _ (subscriptTail _ (PySem.Expr.Slice _ _ none _) (Value.ref _) (Value.ref _)) _ _ _); k_dflt (refine led_slice (by k_asm) (by k_asm) (by k_mem) (by kmk_part) (by kmk_part) (by walk_at "som") (by with_unfolding_all rfl) (by kmk_pure) ?_; k_whole)); walk_at "al")
  k_with "L binaryOp Add" => ((k_here; (with_reducible show wpAny _ _ (binaryOp _ (Value.ref _) (Value.ref _)) _ _ _); k_dflt (refine led_add (by k_asm) (by k_asm) (by k_mem) (by k_mem) (by walk_at "som") (by walk_at "som") ?_; k_whole)); walk_at "al")
  k_with "L binaryOp Add ref ref" => ((k_here; (with_reducible show wpAny _ _ (binaryOp _ (Value.ref _) (Value.ref _)) _ _ _); k_dflt (refine led_add (by k_asm) (by k_asm) (by k_mem) (by k_mem) (by walk_at "som") (by walk_at "som") ?_; k_whole)); walk_at "al")
  k_with "L call builtin:list.append" => ((with_reducible show wpAny _ _ (call (Value.builtin _) ([_] ++ _)) _ _ _); dsimp only [List.cons_append, List.nil_append])
  k_with "L call type:tuple" => ((k_here; (with_reducible show wpAny _ _ (call (Value.type "tuple") [Value.ref _]) _ _ _); k_dflt (refine kde_tupleOf (by k_asm) (by k_asm) (by exact led_isList (by assumption) (by k_mem)) (by (simp only [List.size_toArray, List.length_drop, List.length_take]; omega)) (by exact List.toList_toArray ..) ?_)); intro _ _ _ _ _; (try k_fold))
  trivial
section
variable {w : World} {p : Program} {loose : List Str} {mean : ExcName → Option Value} {mg mb : Str → Option Value}

set_option maxHeartbeats 8000000 in
theorem c_part {lg dx el : Addr} {n : Nat} {vs : List Value} {sv : Value} {off lo hi : Int} {t5 t6 : Tok} :
   Rd 2 w p loose mean mg mb 128 [.ref lg, .int lo t5, .int hi t6] (fun news => LogAt news lg dx sv el off ∧ (el, listOf vs.toArray n) ∈ news ∧ 0 ≤ off ∧ off < 1000 ∧ vs.length < 1000 ∧ off ≤ lo ∧ lo ≤ hi ∧ hi ≤ off + vs.length)
     (fun _ tl r => ∃ D, r = .ref D ∧ (D, listOf ((vs.drop (lo - off).toNat).take (hi - lo).toNat).toArray 0) ∈ tl) := by
  unfold Rd
  k_fill
  intro dp un gd cn cs a ccd cl outer A₀ base h₀ L m news s Q E B F X N T hk hR hd hu hret
  obtain ⟨⟨h1, h2, h3, t1, t2, t3, t4, m1, m2⟩, ml, b1, b2, b3, b4, b5, b6⟩ := hR
  refine wpAny_call ?_
  k_dflt ktr_enter
  k_steps
  refine hret _ [_] _ _ (by assumption) (ktn_tl1 (by assumption)) (ktn_ord1 (allLt_of (by assumption))) ⟨_, rfl, List.mem_singleton.mpr ?_⟩
  rw [pick_run (by omega) (by omega), show (hi - off).toNat - (lo - off).toNat = (hi - lo).toNat by omega]

set_option maxHeartbeats 8000000 in
theorem c_erow {v : Value} {r : Rw} :
   Rd 2 w p loose mean mg mb 170 [v] (fun news => EntAt news v r ∧ 0 ≤ r.t ∧ r.t < 1000 ∧ 0 ≤ r.i ∧ r.i < 1000)
     (fun _ tl q => DatIn tl q r.dat) := by
  unfold Rd
  k_fill
  intro dp un gd cn cs a ccd cl outer A₀ base h₀ L m news s Q E B F X N T hk hR hd hu hret
  obtain ⟨⟨a, dx, h1, h2, h3, h4, t1, t2, t3, t4, t5, t6, t7, t8, rfl, m1, m2⟩, b1, b2, b3, b4⟩ := hR
  refine wpAny_call ?_
  k_dflt ktr_enter
  k_steps
  exact hret _ [_] _ _ (by assumption) (ktn_tl1 (by assumption)) (ktn_ord1 (allLt_of (by assumption))) (row_mk (n := 0) (List.mem_singleton.mpr rfl))

set_option maxHeartbeats 8000000 in
theorem c_draw {l : Addr} {n : Nat} {vs : List Value} {ns : List Int} {i : Int} {t5 : Tok} :
   Rd 2 w p loose mean mg mb 282 [.ref l, .int i t5] (fun news => (l, listOf vs.toArray n) ∈ news ∧ IntsAre vs ns ∧ 0 < ns.length ∧ ns.length ≤ 10 ∧ (∀ x ∈ ns, 0 ≤ x ∧ x < 999983) ∧ 0 ≤ i ∧ i < 10)
     (fun _ tl q => tl = [] ∧ ∃ x tk, q = .int x tk ∧ 0 ≤ x ∧ x < 2000000) := by
  unfold Rd
  k_fill
  intro dp un gd cn cs a ccd cl outer A₀ base h₀ L m news s Q E B F X N T hk hR hd hu hret
  obtain ⟨ml, hi, b1, b2, b3, b4, b5⟩ := hR
  have len := hi.length
  refine wpAny_call ?_
  k_dflt ktr_enter
  k_steps
  refine hret _ [] _ _ (by assumption) (ktn_tl0 (by assumption)) ktn_ord0 ⟨rfl, _, _, rfl, ?_⟩
  have g1 : 0 ≤ ns.getD (i.fmod ↑vs.length).toNat 0 ∧ ns.getD (i.fmod ↑vs.length).toNat 0 < 999983 := by
    rw [List.getD_eq_getElem?_getD]
    cases e : ns[(i.fmod ↑vs.length).toNat]? with
    | none => simp
    | some x => exact b3 x (List.mem_of_getElem? e)
  have g2 : 0 ≤ i.fdiv ↑vs.length ∧ i.fdiv ↑vs.length ≤ i := by
    rw [Int.fdiv_eq_ediv_of_nonneg i (by omega)]
    exact ⟨Int.ediv_nonneg b4 (by omega), Int.ediv_le_self _ b4⟩
  omega
end

end
section
theorem reg_F_mut : True := by
  k_with_none
  k_with "som" => ((try simp only [List.length_append, List.length_take, List.length_drop, List.length_cons, List.length_nil]); omega)
  k_with "mem9" => first | with_reducible exact List.mem_cons_self | (with_reducible refine List.mem_cons_of_mem _ ?_; walk_at "mem9") | (with_reducible refine List.mem_append_left _ ?_; walk_at "mem9") | (with_reducible refine List.mem_append_right _ ?_; walk_at "mem9") | with_reducible assumption
  k_with "q9" => first | with_reducible exact sub_refl | (with_reducible refine sub_tail ?_; walk_at "q9") | (with_reducible refine sub_left ?_; walk_at "q9") | (with_reducible refine sub_right ?_; walk_at "q9") | with_reducible assumption
  k_with "p9" => first | with_reducible exact sub_nil | (with_reducible refine sub_cons ?_ ?_; walk_at "mem9"; walk_at "p9") | (with_reducible refine sub_app ?_ ?_; walk_at "p9"; walk_at "p9") | walk_at "q9"
  k_with "L call builtin:len" => (k_here; (with_reducible show wpAny _ _ (call (Value.builtin "len") [Value.ref _]) _ _ _); k_dflt (refine led_len (by k_asm) (by k_mem) (by walk_at "som") ?_; k_whole))
  k_with "L subscriptTail" => ((k_here; (with_reducible show wpAny _ _ (subscriptTail _ _ (Value.ref _) (Value.int _ _)) _ _ _); k_dflt (refine led_item (by k_asm) (by k_mem) (by omega) (by walk_at "som") (by walk_at "som") (by with_unfolding_all rfl) ?_; k_whole)); first | walk_at "it" | (intro _ _))
  k_with "L subscriptTail" => ((k_here; (with_reducible show wpAny _ _ (subscriptTail _ (PySem.Expr.Slice _ _ none _) (Value.ref _) (Value.ref _)) _ _ _); k_dflt (refine led_slice (by k_asm) (by k_asm) (by k_mem) (by kmk_part) (by kmk_part) (by walk_at "som") (by with_unfolding_all rfl) (by kmk_pure) ?_; k_whole)); walk_at "al")
  k_with "L binaryOp Add" => ((k_here; (with_reducible show wpAny _ _ (binaryOp _ (Value.ref _) (Value.ref _)) _ _ _); k_dflt (refine led_add (by k_asm) (by k_asm) (by k_mem) (by k_mem) (by walk_at "som") (by walk_at "som") ?_; k_whole)); walk_at "al")
  k_with "L binaryOp Add ref ref" => ((k_here; (with_reducible show wpAny _ _ (binaryOp _ (Value.ref _) (Value.ref _)) _ _ _); k_dflt (refine led_add (by k_asm) (by k_asm) (by k_mem) (by k_mem) (by walk_at "som") (by walk_at "som") ?_; k_whole)); walk_at "al")
  k_with "L call builtin:list.append" => ((with_reducible show wpAny _ _ (call (Value.builtin _) ([_] ++ _)) _ _ _); dsimp only [List.cons_append, List.nil_append])
  k_with "L call type:tuple" => ((k_here; (with_reducible show wpAny _ _ (call (Value.type "tuple") [Value.ref _]) _ _ _); k_dflt (refine kde_tupleOf (by k_asm) (by k_asm) (by exact led_isList (by assumption) (by k_mem)) (by (simp only [List.size_toArray, List.length_drop, List.length_take]; omega)) (by exact List.toList_toArray ..) ?_)); intro _ _ _ _ _; (try k_fold))
  k_with "L call ref" => ((k_here; (with_reducible show wpAny _ _ (call (Value.ref 93) _) _ _ _); k_dflt (refine rd_use c_term (by k_asm) (by k_asm) (by k_asm) (by k_asm) (by k_asm) (by first | exact rfl | assumption) (by exact ⟨⟨_, _, _, _, _, _, _, by k_mem, by k_mem⟩, by k_mem, EntAll.up (by assumption) (by walk_at "p9"), SnapIn.up (by assumption) (by walk_at "p9"), by omega, by omega, by omega, by omega, by omega⟩) (by ktr_room) (by ktr_units) ?_)); rintro _ _ _ _ _ _ - ⟨rfl, ho9⟩; walk_at "nz"; (rcases isOpt_cases ho9 with ⟨rfl, _⟩ | ⟨_, _, rfl, _⟩))
  trivial
theorem mu_tl1 {h₀ h : Heap} {L d : Addr} {o : Obj} {q : Addr × Obj} {news : Led} (N : News h₀ L h (q :: (d, o) :: news)) : News h₀ L h ((d, o) :: (news ++ [q])) := kst_newsOf N fun p hp => by
  simp only [List.mem_cons, List.mem_append, List.not_mem_nil, or_false] at hp ⊢
  rcases hp with h | h | h
  · exact .inr (.inl h)
  · exact .inr (.inr h)
  · exact .inl h
theorem mu_ord1 {d D : Addr} {o o' : Obj} {news : Led} (l1 : d < D ∧ AllLt D news) : ∀ q ∈ (d, o') :: news, ∀ p ∈ [(D, o)], q.1 < p.1 := by
  intro q hq p hp
  rw [List.mem_singleton.mp hp]
  rcases List.mem_cons.mp hq with h | h
  · rw [h]; exact l1.1
  · exact kst_ltOf l1.2 _ h
theorem isOpt_cases {r : Value} {x : Option Int} (h : isOpt r x) : (r = .none ∧ x = none) ∨ ∃ t tk, r = .int t tk ∧ x = some t := by
  cases x with
  | none => exact .inl ⟨h, rfl⟩
  | some t => obtain ⟨tk, e⟩ := h; exact .inr ⟨t, tk, e, rfl⟩
section
variable {w : World} {p : Program} {loose : List Str} {mean : ExcName → Option Value} {mg mb : Str → Option Value}
set_option maxHeartbeats 8000000 in
theorem c_stable {lg dx el : Addr} {n : Nat} {vs : List Value} {rs : List Rw} {sv : Value} {off i ter : Int} {S : Option Sn} {o : Obj} {t5 t6 : Tok} (ho : LogD o sv el off) :
   Mu 4 w p loose mean mg mb 100 [.ref lg, .int i t5, .int ter t6] dx o (fun news => (lg, instObj 138 dx) ∈ news ∧ (el, listOf vs.toArray n) ∈ news ∧ EntAll news vs rs ∧ SnapIn news sv S ∧ 0 ≤ off ∧ off < 1000 ∧ rs.length < 1000 ∧ -1000 < i ∧ i < 1000)
     (fun _ tl o' r => r = .none ∧ if off ≤ i ∧ termAt rs off S i = some ter then ∃ el', LogD o' sv el' (i + 1) ∧ (el', listOf (vs.drop (i + 1 - off).toNat).toArray 0) ∈ tl else LogD o' sv el off) := by
  unfold Mu
  k_fill
  intro dp un gd cn cs a ccd cl outer A₀ base h₀ L m news s Q E B F X N hne T hk hR hd hu hret
  obtain ⟨h1, h2, h3, t1, t2, t3, t4, rfl⟩ := ho
  obtain ⟨m1, ml, hv, hS, b1, b2, b3, b4, b5⟩ := hR
  have len := hv.length
  refine wpAny_call ?_
  k_dflt ktr_enter
  k_steps
  · exact hret _ [] _ _ _ (by assumption) (by rw [List.append_nil]; assumption) (fun _ _ _ h => nomatch h) ⟨rfl, by rw [if_neg (by omega)]; exact ⟨_, _, _, _, _, _, _, rfl⟩⟩
  · exact hret _ [] _ _ _ (by assumption) (by rw [List.append_nil]; assumption) (fun _ _ _ h => nomatch h) ⟨rfl, by rw [if_neg (by simp [‹termAt rs off S i = none›])]; exact ⟨_, _, _, _, _, _, _, rfl⟩⟩
  · refine hret _ [] _ _ _ (by assumption) (by rw [List.append_nil]; assumption) (fun _ _ _ h => nomatch h) ⟨rfl, ?_⟩
    obtain ⟨x, e8, e7⟩ : ∃ x, termAt rs off S i = some x ∧ x ≠ ter := ⟨_, by assumption, by assumption⟩
    rw [if_neg (fun h => e7 (Option.some.inj (e8.symm.trans h.2)))]
    exact ⟨_, _, _, _, _, _, _, rfl⟩
  · refine hret _ [_] _ _ _ (by assumption) (mu_tl1 (by assumption)) (mu_ord1 (by assumption)) ⟨rfl, ?_⟩
    obtain ⟨x, e8, e7⟩ : ∃ x, termAt rs off S i = some x ∧ x = ter := ⟨_, by assumption, by assumption⟩
    rw [if_pos ⟨by omega, by rw [e8, e7]⟩]
    refine ⟨_, ⟨_, _, _, _, _, _, _, rfl⟩, List.mem_singleton.mpr ?_⟩
    rw [pick_from (by omega)]
end

end
section
theorem reg_F_mut2 : True := by
  k_with_none
  k_with "som" => ((try simp only [List.length_append, List.length_take, List.length_drop, List.length_cons, List.length_nil]); omega)
  k_with "mem9" => first | with_reducible exact List.mem_cons_self | (with_reducible refine List.mem_cons_of_mem _ ?_; walk_at "mem9") | (with_reducible refine List.mem_append_left _ ?_; walk_at "mem9") | (with_reducible refine List.mem_append_right _ ?_; walk_at "mem9") | with_reducible assumption
  k_with "q9" => first | with_reducible exact sub_refl | (with_reducible refine sub_tail ?_; walk_at "q9") | (with_reducible refine sub_left ?_; walk_at "q9") | (with_reducible refine sub_right ?_; walk_at "q9") | with_reducible assumption
  k_with "p9" => first | with_reducible exact sub_nil | (with_reducible refine sub_cons ?_ ?_; walk_at "mem9"; walk_at "p9") | (with_reducible refine sub_app ?_ ?_; walk_at "p9"; walk_at "p9") | walk_at "q9"
  k_with "L call builtin:len" => (k_here; (with_reducible show wpAny _ _ (call (Value.builtin "len") [Value.ref _]) _ _ _); k_dflt (refine led_len (by k_asm) (by k_mem) (by walk_at "som") ?_; k_whole))
  k_with "L subscriptTail" => ((k_here; (with_reducible show wpAny _ _ (subscriptTail _ _ (Value.ref _) (Value.int _ _)) _ _ _); k_dflt (refine led_item (by k_asm) (by k_mem) (by omega) (by walk_at "som") (by walk_at "som") (by with_unfolding_all rfl) ?_; k_whole)); first | walk_at "it" | (intro _ _))
  k_with "L subscriptTail" => ((k_here; (with_reducible show wpAny _ _ (subscriptTail _ (PySem.Expr.Slice _ _ none _) (Value.ref _) (Value.ref _)) _ _ _); k_dflt (refine led_slice (by k_asm) (by k_asm) (by k_mem) (by kmk_part) (by kmk_part) (by walk_at "som") (by with_unfolding_all rfl) (by kmk_pure) ?_; k_whole)); walk_at "al")
  k_with "L binaryOp Add" => ((k_here; (with_reducible show wpAny _ _ (binaryOp _ (Value.ref _) (Value.ref _)) _ _ _); k_dflt (refine led_add (by k_asm) (by k_asm) (by k_mem) (by k_mem) (by walk_at "som") (by walk_at "som") ?_; k_whole)); walk_at "al")
  k_with "L binaryOp Add ref ref" => ((k_here; (with_reducible show wpAny _ _ (binaryOp _ (Value.ref _) (Value.ref _)) _ _ _); k_dflt (refine led_add (by k_asm) (by k_asm) (by k_mem) (by k_mem) (by walk_at "som") (by walk_at "som") ?_; k_whole)); walk_at "al")
  k_with "L call builtin:list.append" => ((with_reducible show wpAny _ _ (call (Value.builtin _) ([_] ++ _)) _ _ _); dsimp only [List.cons_append, List.nil_append])
  k_with "L call type:tuple" => ((k_here; (with_reducible show wpAny _ _ (call (Value.type "tuple") [Value.ref _]) _ _ _); k_dflt (refine kde_tupleOf (by k_asm) (by k_asm) (by exact led_isList (by assumption) (by k_mem)) (by (simp only [List.size_toArray, List.length_drop, List.length_take]; omega)) (by exact List.toList_toArray ..) ?_)); intro _ _ _ _ _; (try k_fold))
  k_with "L call ref" => ((k_here; (with_reducible show wpAny _ _ (call (Value.ref 128) _) _ _ _); k_dflt (refine rd_use c_part (by k_asm) (by k_asm) (by k_asm) (by k_asm) (by k_asm) (by first | exact rfl | assumption) (by exact ⟨⟨_, _, _, _, _, _, _, by k_mem, by k_mem⟩, by k_mem, by omega, by omega, by omega, by omega, by omega, by omega⟩) (by ktr_room) (by ktr_units) ?_)); rintro _ _ _ _ _ _ _ ⟨_, rfl, _⟩; walk_at "nz")
  trivial
theorem mu_tl2 {h₀ h : Heap} {L d : Addr} {o : Obj} {q : Addr × Obj} {news tl : Led} (N : News h₀ L h (q :: (d, o) :: (news ++ tl))) : News h₀ L h ((d, o) :: (news ++ (q :: tl))) := kst_newsOf N fun p hp => by
  simp only [List.mem_cons, List.mem_append] at hp ⊢
  rcases hp with h | h | h | h
  · exact .inr (.inl h)
  · exact .inr (.inr (.inl h))
  · exact .inl h
  · exact .inr (.inr (.inr h))
theorem mu_ord2 {d D : Addr} {o o' o'' : Obj} {news tl : Led} (l1 : d < D ∧ AllLt D (news ++ tl)) (hl : ∀ q ∈ (d, o'') :: news, ∀ p ∈ tl, q.1 < p.1) : ∀ q ∈ (d, o') :: news, ∀ p ∈ (D, o) :: tl, q.1 < p.1 := by
  intro q hq p hp
  rcases List.mem_cons.mp hp with h | h
  · rw [h]
    rcases List.mem_cons.mp hq with h | h
    · rw [h]; exact l1.1
    · exact kst_ltOf l1.2 _ (List.mem_append.mpr (.inl h))
  · rcases List.mem_cons.mp hq with h' | h'
    · rw [h']; exact hl _ (.head _) p h
    · exact hl _ (.tail _ h') p h
section
variable {w : World} {p : Program} {loose : List Str} {mean : ExcName → Option Value} {mg mb : Str → Option Value}
set_option maxHeartbeats 8000000 in
theorem c_snapto {lg dx el : Addr} {sv : Value} {off i : Int} {S : Option Sn} {o : Obj} {t5 : Tok} (ho : LogD o sv el off) :
   Mu 2 w p loose mean mg mb 107 [.ref lg, .int i t5] dx o (fun news => (lg, instObj 138 dx) ∈ news ∧ SnapIn news sv S ∧ -1000 < i ∧ i < 1000)
     (fun _ tl o' r => r = .none ∧ tl = [] ∧ if S.map (·.i) = some i then LogD o' .none el off else LogD o' sv el off) := by
  unfold Mu
  k_fill
  intro dp un gd cn cs a ccd cl outer A₀ base h₀ L m news s Q E B F X N hne T hk hR hd hu hret
  obtain ⟨h1, h2, h3, t1, t2, t3, t4, rfl⟩ := ho
  obtain ⟨m1, hS, b4, b5⟩ := hR
  cases S with
  | none =>
    simp only [SnapIn] at hS
    subst hS
    refine wpAny_call ?_
    k_dflt ktr_enter
    k_steps
    exact hret _ [] _ _ _ (by assumption) (by rw [List.append_nil]; assumption) (fun _ _ _ h => nomatch h) ⟨rfl, rfl, by rw [if_neg (by simp)]; exact ⟨_, _, _, _, _, _, _, rfl⟩⟩
  | some x =>
    simp only [SnapIn] at hS
    obtain ⟨sn, rfl, sdx, cf, g1, g2, g3, g4, u1, u2, u3, u4, u5, u6, u8, m3, m4, m5⟩ := hS
    refine wpAny_call ?_
    k_dflt ktr_enter
    k_steps
    · exact hret _ [] _ _ _ (by assumption) (by rw [List.append_nil]; assumption) (fun _ _ _ h => nomatch h) ⟨rfl, rfl, by rw [if_pos (by simp only [Option.map_some, ‹x.i = i›])]; exact ⟨_, _, _, _, _, _, _, rfl⟩⟩
    · exact hret _ [] _ _ _ (by assumption) (by rw [List.append_nil]; assumption) (fun _ _ _ h => nomatch h) ⟨rfl, rfl, by (have hx : x.i ≠ i := by assumption); rw [if_neg (by simpa using hx)]; exact ⟨_, _, _, _, _, _, _, rfl⟩⟩

set_option maxHeartbeats 8000000 in
theorem c_restore {lg dx el sn : Addr} {sv : Value} {off : Int} {x : Sn} {o : Obj} (ho : LogD o sv el off) :
   Mu 2 w p loose mean mg mb 114 [.ref lg, .ref sn] dx o (fun news => (lg, instObj 138 dx) ∈ news ∧ SnapAt news sn x ∧ -1000 < x.i ∧ x.i < 1000)
     (fun _ tl o' r => r = .none ∧ ∃ el', LogD o' (.ref sn) el' (x.i + 1) ∧ (el', listOf ([] : List Value).toArray 0) ∈ tl) := by
  unfold Mu
  k_fill
  intro dp un gd cn cs a ccd cl outer A₀ base h₀ L m news s Q E B F X N hne T hk hR hd hu hret
  obtain ⟨h1, h2, h3, t1, t2, t3, t4, rfl⟩ := ho
  obtain ⟨m1, ⟨sdx, cf, g1, g2, g3, g4, u1, u2, u3, u4, u5, u6, u8, m3, m4, m5⟩, b4, b5⟩ := hR
  refine wpAny_call ?_
  k_dflt ktr_enter
  k_steps
  exact hret _ [_] _ _ _ (by assumption) (mu_tl1 (by assumption)) (mu_ord1 (by assumption)) ⟨rfl, _, ⟨_, _, _, _, _, _, _, rfl⟩, List.mem_singleton.mpr rfl⟩

set_option maxHeartbeats 8000000 in
theorem c_trunc {lg dx el en : Addr} {n c : Nat} {vs us : List Value} {qs : List Rw} {sv : Value} {off : Int} {o : Obj} (ho : LogD o sv el off) :
   Mu 6 w p loose mean mg mb 121 [.ref lg, .ref en] dx o (fun news => (lg, instObj 138 dx) ∈ news ∧ (el, listOf vs.toArray n) ∈ news ∧ (en, listOf us.toArray c) ∈ news ∧ EntAll news us qs ∧ 0 ≤ off ∧ off < 1000 ∧ vs.length < 1000 ∧ us.length < 1000 ∧
      ∀ q, qs[0]? = some q → 0 ≤ q.i ∧ q.i ≤ off + vs.length)
     (fun _ tl o' r => r = .none ∧ match qs with | [] => LogD o' sv el off | q :: _ => ∃ el', LogD o' sv el' (min off q.i) ∧ (el', listOf (vs.take (q.i - off).toNat ++ us).toArray 0) ∈ tl) := by
  unfold Mu
  k_fill
  intro dp un gd cn cs a ccd cl outer A₀ base h₀ L m news s Q E B F X N hne T hk hR hd hu hret
  obtain ⟨h1, h2, h3, t1, t2, t3, t4, rfl⟩ := ho
  obtain ⟨m1, ml, mn, hus, b1, b2, b3, b4, b5⟩ := hR
  cases hus with
  | nil =>
    refine wpAny_call ?_
    k_dflt ktr_enter
    k_steps
    exact hret _ [] _ _ _ (by assumption) (by rw [List.append_nil]; assumption) (fun _ _ _ h => nomatch h) ⟨rfl, ⟨_, _, _, _, _, _, _, rfl⟩⟩
  | @cons v us q qs hq hus =>
    obtain ⟨c1, c2⟩ := b5 q rfl
    clear b5
    simp only [List.length_cons] at b4
    have hus' : EntAll news (v :: us) (q :: qs) := .cons hq hus
    have kMk := kstMark
    refine wpAny_call ?_
    k_dflt ktr_enter
    k_steps
    · exfalso
      simp only [List.length_cons] at *
      omega
    · obtain ⟨r, e8, e7⟩ : ∃ r : Rw, (q :: qs)[Int.toNat 0]? = some r ∧ r.i = off + ↑vs.length := ⟨_, by assumption, by assumption⟩
      have e6 : q = r := by simpa using e8
      subst e6
      have f1 : min off q.i = off := by omega
      have f2 : vs.take (q.i - off).toNat = vs := List.take_of_length_le (by omega)
      refine hret _ [_] _ _ _ (by assumption) (mu_tl1 (by assumption)) (mu_ord1 (by assumption)) ⟨rfl, ?_⟩
      dsimp only
      rw [f1, f2]
      exact ⟨_, ⟨_, _, _, _, _, _, _, rfl⟩, List.mem_singleton.mpr rfl⟩
    · obtain ⟨r, e8, e7⟩ : ∃ r : Rw, (q :: qs)[Int.toNat 0]? = some r ∧ r.i ≤ off := ⟨_, by assumption, by assumption⟩
      have e6 : q = r := by simpa using e8
      have e5 : (q :: qs)[Int.toNat 0]? = some q := rfl
      refine hret _ [_] _ _ _ (by assumption) (mu_tl1 (by assumption)) (mu_ord1 (by assumption)) ⟨rfl, ?_⟩
      dsimp only
      have f1 : min off q.i = q.i := by rw [e6]; omega
      have f2 : vs.take (q.i - off).toNat = [] := by rw [show (q.i - off).toNat = 0 by rw [e6]; omega, List.take_zero]
      rw [f1, f2, pick_all]
      simp only [List.getElem?_cons_zero, Int.toNat_zero, Option.some.injEq] at *
      subst_vars
      exact ⟨_, ⟨_, _, _, _, _, _, _, rfl⟩, List.mem_singleton.mpr rfl⟩
    · obtain ⟨r, e8, e7, e3⟩ : ∃ r : Rw, (q :: qs)[Int.toNat 0]? = some r ∧ r.i < off + ↑vs.length ∧ ¬ r.i ≤ off := ⟨_, by assumption, by assumption, by assumption⟩
      have e6 : q = r := by simpa using e8
      refine hret _ (_ :: _) _ _ _ (by assumption) (mu_tl2 (by assumption)) (mu_ord2 (by assumption) (by assumption)) ⟨rfl, ?_⟩
      dsimp only
      have f1 : min off q.i = off := by rw [e6]; omega
      simp only [List.getElem?_cons_zero, Int.toNat_zero, Option.some.injEq] at *
      subst_vars
      rw [f1]
      refine ⟨_, ⟨_, _, _, _, _, _, _, rfl⟩, ?_⟩
      rw [show (off - off).toNat = 0 by omega, List.drop_zero]
      exact List.mem_cons_self
end

end
section
theorem reg_G_make : True := by
  k_with_none
  k_with "som" => ((try simp only [List.length_append, List.length_take, List.length_drop, List.length_cons, List.length_nil]); omega)
  k_with "mem9" => first | with_reducible exact List.mem_cons_self | (with_reducible refine List.mem_cons_of_mem _ ?_; walk_at "mem9") | (with_reducible refine List.mem_append_left _ ?_; walk_at "mem9") | (with_reducible refine List.mem_append_right _ ?_; walk_at "mem9") | with_reducible assumption
  k_with "q9" => first | with_reducible exact sub_refl | (with_reducible refine sub_tail ?_; walk_at "q9") | (with_reducible refine sub_left ?_; walk_at "q9") | (with_reducible refine sub_right ?_; walk_at "q9") | with_reducible assumption
  k_with "p9" => first | with_reducible exact sub_nil | (with_reducible refine sub_cons ?_ ?_; walk_at "mem9"; walk_at "p9") | (with_reducible refine sub_app ?_ ?_; walk_at "p9"; walk_at "p9") | walk_at "q9"
  k_with "L call builtin:len" => (k_here; (with_reducible show wpAny _ _ (call (Value.builtin "len") [Value.ref _]) _ _ _); k_dflt (refine led_len (by k_asm) (by k_mem) (by walk_at "som") ?_; k_whole))
  k_with "L subscriptTail" => ((k_here; (with_reducible show wpAny _ _ (subscriptTail _ _ (Value.ref _) (Value.int _ _)) _ _ _); k_dflt (refine led_item (by k_asm) (by k_mem) (by omega) (by walk_at "som") (by walk_at "som") (by with_unfolding_all rfl) ?_; k_whole)); first | walk_at "it" | (intro _ _))
  k_with "L subscriptTail" => ((k_here; (with_reducible show wpAny _ _ (subscriptTail _ (PySem.Expr.Slice _ _ none _) (Value.ref _) (Value.ref _)) _ _ _); k_dflt (refine led_slice (by k_asm) (by k_asm) (by k_mem) (by kmk_part) (by kmk_part) (by walk_at "som") (by with_unfolding_all rfl) (by kmk_pure) ?_; k_whole)); walk_at "al")
  k_with "L binaryOp Add" => ((k_here; (with_reducible show wpAny _ _ (binaryOp _ (Value.ref _) (Value.ref _)) _ _ _); k_dflt (refine led_add (by k_asm) (by k_asm) (by k_mem) (by k_mem) (by walk_at "som") (by walk_at "som") ?_; k_whole)); walk_at "al")
  k_with "L binaryOp Add ref ref" => ((k_here; (with_reducible show wpAny _ _ (binaryOp _ (Value.ref _) (Value.ref _)) _ _ _); k_dflt (refine led_add (by k_asm) (by k_asm) (by k_mem) (by k_mem) (by walk_at "som") (by walk_at "som") ?_; k_whole)); walk_at "al")
  k_with "L call builtin:list.append" => ((with_reducible show wpAny _ _ (call (Value.builtin _) ([_] ++ _)) _ _ _); dsimp only [List.cons_append, List.nil_append])
  k_with "L call type:tuple" => ((k_here; (with_reducible show wpAny _ _ (call (Value.type "tuple") [Value.ref _]) _ _ _); k_dflt (refine kde_tupleOf (by k_asm) (by k_asm) (by exact led_isList (by assumption) (by k_mem)) (by (simp only [List.size_toArray, List.length_drop, List.length_take]; omega)) (by exact List.toList_toArray ..) ?_)); intro _ _ _ _ _; (try k_fold))
  k_with "L call ref" => ((k_here; (with_reducible show wpAny _ _ (call (Value.ref 149) _) _ _ _); k_dflt (refine rd_use c_rising1 (by k_asm) (by k_asm) (by k_asm) (by k_asm) (by k_asm) (by first | exact rfl | assumption) (by k_mem) (by ktr_room) (by ktr_units) ?_)); rintro _ _ _ _ _ _ _ ⟨_, _, _, rfl, _⟩; walk_at "nz")
  k_with "L call ref" => ((k_here; (with_reducible show wpAny _ _ (call (Value.ref 149) _) _ _ _); k_dflt (refine rd_use c_rising0 (by k_asm) (by k_asm) (by k_asm) (by k_asm) (by k_asm) (by first | exact rfl | assumption) (by k_mem) (by ktr_room) (by ktr_units) ?_)); rintro _ _ _ _ _ _ _ ⟨_, _, rfl, _⟩; walk_at "nz")
  k_with "L pyIter ref" => ((have e9 := perm0 (by assumption) (by assumption)); subst e9; (rename IntsAre _ _ => i9); clear i9)
  k_with "L pyIter ref" => ((have e9 := perm1 (by assumption) (by assumption)); (obtain ⟨_, rfl⟩ := e9); (rename IntsAre _ _ => i9); clear i9)
  trivial
theorem perm1 {ns : List Int} {vs : List Value} (h : ns.Perm [1]) (i : IntsAre vs ns) : ∃ t, vs = [Value.int 1 t] := by
  have e : ns = [1] := List.perm_singleton.mp h
  subst e
  cases i with
  | cons n t r => cases r; exact ⟨t, rfl⟩
theorem perm0 {ns : List Int} {vs : List Value} (h : ns.Perm []) (i : IntsAre vs ns) : vs = [] := by
  have e : ns = [] := List.perm_nil.mp h
  subst e
  cases i
  rfl
theorem rd_tl2 {h₀ h : Heap} {L : Addr} {a b : Addr × Obj} {news : Led} (N : News h₀ L h (a :: b :: news)) : News h₀ L h (news ++ [a, b]) := kst_newsOf N fun p hp => by
  simp only [List.mem_append, List.mem_cons, List.not_mem_nil, or_false] at hp ⊢
  grind
theorem rd_tl2a {h₀ h : Heap} {L : Addr} {a b : Addr × Obj} {news tl : Led} (N : News h₀ L h (a :: b :: (news ++ tl))) : News h₀ L h (news ++ (a :: b :: tl)) := kst_newsOf N fun p hp => by
  simp only [List.mem_append, List.mem_cons] at hp ⊢
  grind
theorem rd_tl3 {h₀ h : Heap} {L : Addr} {a b c : Addr × Obj} {news : Led} (N : News h₀ L h (a :: b :: c :: news)) : News h₀ L h (news ++ [a, b, c]) := kst_newsOf N fun p hp => by
  simp only [List.mem_append, List.mem_cons, List.not_mem_nil, or_false] at hp ⊢
  grind
theorem rd_ord2 {d x : Addr} {o o' : Obj} {news : Led} (l1 : ∀ p ∈ news, p.1 < d) (l2 : d < x) : ∀ q ∈ news, ∀ p ∈ [(x, o), (d, o')], q.1 < p.1 := by
  intro q hq p hp
  rcases List.mem_cons.mp hp with h | h
  · rw [h]; exact Nat.lt_trans (l1 q hq) l2
  · rw [List.mem_singleton.mp h]; exact l1 q hq
section
variable {w : World} {p : Program} {loose : List Str} {mean : ExcName → Option Value} {mg mb : Str → Option Value}
set_option maxHeartbeats 8000000 in
theorem c_ent {r : Rw} {t1 t2 t3 t4 : Tok} :
   Rd 4 w p loose mean mg mb 194 [.int r.t t1, .int r.i t2, .int 0 t3, .bytes r.d t4] (fun _ => True) (fun _ tl q => EntAt tl q r) := by
  unfold Rd
  k_fill
  intro dp un gd cn cs a ccd cl outer A₀ base h₀ L m news s Q E B F X N T hk hR hd hu hret
  have kMk := kstMark
  k_dflt (refine' call_cls ?k1 ?k2 ?k3 ?k4 ?k5 ?k6 ?_; (case k1 => k_asm); (case k2 => k_asm); (case k3 => k_asm); (case k4 => k_is); (case k5 => k_is); (case k6 => k_is); k_whole; intro x' d' h' F' N' l1 l2; (try k_lt l1); (try k_lt2 l2); (try k_sweep); ktr_enter)
  k_steps
  exact hret _ [_, _] _ _ (by assumption) (rd_tl2 (by assumption)) (rd_ord2 (by assumption) (by assumption)) ⟨_, _, _, _, _, _, _, _, _, _, _, _, _, _, rfl, List.mem_cons_self, List.mem_cons_of_mem _ (List.mem_singleton.mpr rfl)⟩
set_option maxHeartbeats 8000000 in
theorem c_rising1 {l1 : Addr} {n1 : Nat} {t1 : Tok} :
   Rd 4 w p loose mean mg mb 149 [.ref l1] (fun news => (l1, listOf [Value.int 1 t1].toArray n1) ∈ news) (fun _ tl q => ∃ D n t, q = .ref D ∧ (D, listOf [Value.int 1 t].toArray n) ∈ tl) := by
  unfold Rd
  k_fill
  intro dp un gd cn cs a ccd cl outer A₀ base h₀ L m news s Q E B F X N T hk m1 hd hu hret
  refine wpAny_call ?_
  k_dflt ktr_enter
  k_steps
  rename_i g' L' h1' FG' B' X' T' l' h2' l1' h3' D' n' c' h4' F' e' p' o' p0 l2' b' t9 N'
  refine it_list (vs := [Value.int 1 t9]) [] (fun i nx => ∃ e, nx = (D', listOf [Value.int 1 t9].toArray c') :: (l', listOf (([Value.int 1 t9]).take i).toArray e) :: news) rfl (by k_mem) F' N' ⟨0, rfl⟩ ?_ ?_
  · rintro i v u nx h tk own hv hoff hm ⟨e, rfl⟩ F9 N9
    have hi : i = 0 ∧ v = .int 1 t9 := by
      cases i with
      | zero => simp at hv; exact ⟨rfl, hv.symm⟩
      | succ i => simp at hv
    obtain ⟨rfl, rfl⟩ := hi
    clear N'
    have hA : ∀ p ∈ news ++ own, p.1 ≠ l' := List.forall_mem_append.mpr ⟨fun p hp => Nat.ne_of_lt (l1' p hp), hoff.ne (by simp)⟩
    simp only [List.take_zero, List.cons_append] at N9
    k_steps
    exact InvEndG.intro (by assumption) (by assumption) ⟨List.mem_cons_self, (fun z hz _ => by simp only [if_neg hz]; rfl), _, rfl⟩ hoff (led_in (fun _ h => h)) (led_own (fun _ h => h))
  · rintro u nx h tk ⟨e, rfl⟩ F9 N9
    clear N'
    k_steps
    refine hret _ [(D', listOf [Value.int 1 t9].toArray c'), (l', listOf [Value.int 1 t9].toArray e)] _ _ (by assumption) (kst_newsOf (by assumption) ?_) ?_ ⟨_, e, t9, rfl, List.mem_cons_of_mem _ (List.mem_singleton.mpr rfl)⟩
    · intro p hp
      simp only [List.mem_append, List.mem_cons] at hp ⊢
      grind
    · intro q hq p hp
      rcases List.mem_cons.mp hp with h | h
      · rw [h]; exact kst_ltOf l2'.2 q hq
      · rw [List.mem_singleton.mp h]; exact l1' q hq
set_option maxHeartbeats 8000000 in
theorem c_rising0 {l1 : Addr} {n1 : Nat} :
   Rd 4 w p loose mean mg mb 149 [.ref l1] (fun news => (l1, listOf ([] : List Value).toArray n1) ∈ news) (fun _ tl q => ∃ D n, q = .ref D ∧ (D, listOf ([] : List Value).toArray n) ∈ tl) := by
  unfold Rd
  k_fill
  intro dp un gd cn cs a ccd cl outer A₀ base h₀ L m news s Q E B F X N T hk m1 hd hu hret
  refine wpAny_call ?_
  k_dflt ktr_enter
  k_steps
  rename_i g' L' h1' FG' B' X' T' l' h2' l1' h3' D' n' c' h4' F' e' p' o' p0 l2' b' N'
  refine it_list (vs := []) [] (fun i nx => nx = (D', listOf ([] : List Value).toArray c') :: (l', listOf ([] : List Value).toArray 0) :: news) rfl (by k_mem) F' N' rfl ?_ ?_
  · rintro i v u nx h tk own hv hoff hm rfl F9 N9
    simp at hv
  · rintro u nx h tk rfl F9 N9
    clear N'
    k_steps
    refine hret _ [(D', listOf ([] : List Value).toArray c'), (l', listOf ([] : List Value).toArray 0)] _ _ (by assumption) (rd_tl2 (by assumption)) (fun q hq p hp => ?_) ⟨_, _, rfl, List.mem_cons_of_mem _ (List.mem_singleton.mpr rfl)⟩
    rcases List.mem_cons.mp hp with h | h
    · rw [h]; exact kst_ltOf l2'.2 q hq
    · rw [List.mem_singleton.mp h]; exact l1' q hq

set_option maxHeartbeats 8000000 in
theorem c_conf {l1 l2 l3 l4 : Addr} {n1 n2 n3 n4 : Nat} {t1 : Tok} :
   Rd 8 w p loose mean mg mb 229 [.ref l1, .ref l2, .ref l3, .ref l4, .bool false] (fun news => (l1, listOf [Value.int 1 t1].toArray n1) ∈ news ∧ (l2, listOf ([] : List Value).toArray n2) ∈ news ∧ (l3, listOf ([] : List Value).toArray n3) ∈ news ∧ (l4, listOf ([] : List Value).toArray n4) ∈ news)
     (fun _ tl q => ∃ cf, q = .ref cf ∧ ConfIn tl cf) := by
  unfold Rd
  k_fill
  intro dp un gd cn cs a ccd cl outer A₀ base h₀ L m news s Q E B F X N T hk hR hd hu hret
  obtain ⟨m1, m2, m3, m4⟩ := hR
  have kMk := kstMark
  k_dflt (refine' call_cls ?k1 ?k2 ?k3 ?k4 ?k5 ?k6 ?_; (case k1 => k_asm); (case k2 => k_asm); (case k3 => k_asm); (case k4 => k_is); (case k5 => k_is); (case k6 => k_is); k_whole; intro x' d' h' F' N' l1 l2; (try k_lt l1); (try k_lt2 l2); (try k_sweep); ktr_enter)
  k_steps
  rename_i tA _ _ oA DA nA tA9 mA _ _ _ _ tB _ _ oB DB nB mB _ _ _ _ tC _ _ oC DC nC mC _ _ _ _ tD _ _ oD DD nD mD _ _ _ _ kF kN _ _
  refine hret _ _ _ _ kF (rd_tl2a kN) ?_ ⟨_, rfl, _, _, _, _, _, _, _, _, _, _, _, _, _, _, _, tA9, nA, nB, nC, nD, List.mem_cons_self, List.mem_cons_of_mem _ List.mem_cons_self, ?_, ?_, ?_, ?_⟩
  · intro q hq p hp
    simp only [List.mem_append, List.mem_cons] at hp
    rcases hp with h | h | h | h | h | h
    · rw [h]; exact Nat.lt_trans (l1 q hq) l2
    · rw [h]; exact l1 q hq
    · exact oA q (List.mem_cons_of_mem _ (List.mem_cons_of_mem _ hq)) p h
    · exact oB q (List.mem_cons_of_mem _ (List.mem_cons_of_mem _ (by simp only [List.mem_append]; exact .inl hq))) p h
    · exact oC q (List.mem_cons_of_mem _ (List.mem_cons_of_mem _ (by simp only [List.mem_append]; grind))) p h
    · exact oD q (List.mem_cons_of_mem _ (List.mem_cons_of_mem _ (by simp only [List.mem_append]; grind))) p h
  · exact List.mem_cons_of_mem _ (List.mem_cons_of_mem _ (by simp only [List.mem_append]; exact .inl mA))
  · exact List.mem_cons_of_mem _ (List.mem_cons_of_mem _ (by simp only [List.mem_append]; exact .inr (.inl mB)))
  · exact List.mem_cons_of_mem _ (List.mem_cons_of_mem _ (by simp only [List.mem_append]; exact .inr (.inr (.inl mC))))
  · exact List.mem_cons_of_mem _ (List.mem_cons_of_mem _ (by simp only [List.mem_append]; exact .inr (.inr (.inr mD))))

set_option maxHeartbeats 8000000 in
theorem c_snap {i t : Int} {d : Array UInt8} {cf : Addr} {t1 t2 t3 : Tok} :
   Rd 4 w p loose mean mg mb 271 [.int i t1, .int t t2, .ref cf, .bytes d t3] (fun _ => True) (fun _ tl q => ∃ sn, q = .ref sn ∧ ∀ R, ConfIn R cf → SnapAt (R ++ tl) sn ⟨i, t, d⟩) := by
  unfold Rd
  k_fill
  intro dp un gd cn cs a ccd cl outer A₀ base h₀ L m news s Q E B F X N T hk hR hd hu hret
  have kMk := kstMark
  k_dflt (refine' call_cls ?k1 ?k2 ?k3 ?k4 ?k5 ?k6 ?_; (case k1 => k_asm); (case k2 => k_asm); (case k3 => k_asm); (case k4 => k_is); (case k5 => k_is); (case k6 => k_is); k_whole; intro x' d' h' F' N' l1 l2; (try k_lt2 l2); (try k_sweep); ktr_enter)
  k_steps
  exact hret _ [_, _] _ _ (by assumption) (rd_tl2 (by assumption)) (rd_ord2 (by assumption) (by assumption)) ⟨_, rfl, fun R hR => ⟨_, _, _, _, _, _, _, _, _, _, _, _, _, led_right _ List.mem_cons_self, led_right _ (List.mem_cons_of_mem _ (List.mem_singleton.mpr rfl)), hR.mono led_left⟩⟩

set_option maxHeartbeats 8000000 in
theorem c_unst {off : Int} {t1 : Tok} :
   Rd 4 w p loose mean mg mb 138 [.int off t1] (fun _ => True) (fun _ tl q => ∃ lg dx el o, q = .ref lg ∧ (lg, instObj 138 dx) ∈ tl ∧ (dx, o) ∈ tl ∧ LogD o .none el off ∧ (el, listOf ([] : List Value).toArray 0) ∈ tl ∧ lg ≠ el ∧ dx ≠ el) := by
  unfold Rd
  k_fill
  intro dp un gd cn cs a ccd cl outer A₀ base h₀ L m news s Q E B F X N T hk hR hd hu hret
  have kMk := kstMark
  k_dflt (refine' call_cls ?k1 ?k2 ?k3 ?k4 ?k5 ?k6 ?_; (case k1 => k_asm); (case k2 => k_asm); (case k3 => k_asm); (case k4 => k_is); (case k5 => k_is); (case k6 => k_is); k_whole; intro x' d' h' F' N' l1 l2; (try k_lt2 l2); (try k_sweep); ktr_enter)
  k_steps
  rename_i h1 l' _ l3 _ _ _ _ kF kN _ _
  refine hret _ _ _ _ kF (rd_tl3 kN) ?_ ⟨_, _, _, _, rfl, List.mem_cons_of_mem _ List.mem_cons_self, List.mem_cons_of_mem _ (List.mem_cons_of_mem _ List.mem_cons_self), ⟨_, _, _, _, _, _, _, rfl⟩, List.mem_cons_self, ?_, ?_⟩
  · intro q hq p hp
    simp only [List.mem_cons, List.not_mem_nil, or_false] at hp
    rcases hp with h | h | h
    · rw [h]; exact kst_ltOf l3.2.2 q hq
    · rw [h]; exact Nat.lt_trans (l1 q hq) l2
    · rw [h]; exact l1 q hq
  · exact Nat.ne_of_lt l3.1
  · exact Nat.ne_of_lt l3.2.1
end

end
section
theorem reg_G_rows : True := by
  k_with_none
  k_with "som" => ((try simp only [List.length_append, List.length_take, List.length_drop, List.length_cons, List.length_nil]); omega)
  k_with "mem9" => first | with_reducible exact List.mem_cons_self | (with_reducible refine List.mem_cons_of_mem _ ?_; walk_at "mem9") | (with_reducible refine List.mem_append_left _ ?_; walk_at "mem9") | (with_reducible refine List.mem_append_right _ ?_; walk_at "mem9") | with_reducible assumption
  k_with "q9" => first | with_reducible exact sub_refl | (with_reducible refine sub_tail ?_; walk_at "q9") | (with_reducible refine sub_left ?_; walk_at "q9") | (with_reducible refine sub_right ?_; walk_at "q9") | with_reducible assumption
  k_with "p9" => first | with_reducible exact sub_nil | (with_reducible refine sub_cons ?_ ?_; walk_at "mem9"; walk_at "p9") | (with_reducible refine sub_app ?_ ?_; walk_at "p9"; walk_at "p9") | walk_at "q9"
  k_with "L call builtin:len" => (k_here; (with_reducible show wpAny _ _ (call (Value.builtin "len") [Value.ref _]) _ _ _); k_dflt (refine led_len (by k_asm) (by k_mem) (by walk_at "som") ?_; k_whole))
  k_with "L subscriptTail" => ((k_here; (with_reducible show wpAny _ _ (subscriptTail _ _ (Value.ref _) (Value.int _ _)) _ _ _); k_dflt (refine led_item (by k_asm) (by k_mem) (by omega) (by walk_at "som") (by walk_at "som") (by with_unfolding_all rfl) ?_; k_whole)); first | walk_at "it" | (intro _ _))
  k_with "L subscriptTail" => ((k_here; (with_reducible show wpAny _ _ (subscriptTail _ (PySem.Expr.Slice _ _ none _) (Value.ref _) (Value.ref _)) _ _ _); k_dflt (refine led_slice (by k_asm) (by k_asm) (by k_mem) (by kmk_part) (by kmk_part) (by walk_at "som") (by with_unfolding_all rfl) (by kmk_pure) ?_; k_whole)); walk_at "al")
  k_with "L binaryOp Add" => ((k_here; (with_reducible show wpAny _ _ (binaryOp _ (Value.ref _) (Value.ref _)) _ _ _); k_dflt (refine led_add (by k_asm) (by k_asm) (by k_mem) (by k_mem) (by walk_at "som") (by walk_at "som") ?_; k_whole)); walk_at "al")
  k_with "L binaryOp Add ref ref" => ((k_here; (with_reducible show wpAny _ _ (binaryOp _ (Value.ref _) (Value.ref _)) _ _ _); k_dflt (refine led_add (by k_asm) (by k_asm) (by k_mem) (by k_mem) (by walk_at "som") (by walk_at "som") ?_; k_whole)); walk_at "al")
  k_with "L call builtin:list.append" => ((with_reducible show wpAny _ _ (call (Value.builtin _) ([_] ++ _)) _ _ _); dsimp only [List.cons_append, List.nil_append])
  k_with "L call type:tuple" => ((k_here; (with_reducible show wpAny _ _ (call (Value.type "tuple") [Value.ref _]) _ _ _); k_dflt (refine kde_tupleOf (by k_asm) (by k_asm) (by exact led_isList (by assumption) (by k_mem)) (by (simp only [List.size_toArray, List.length_drop, List.length_take]; omega)) (by exact List.toList_toArray ..) ?_)); intro _ _ _ _ _; (try k_fold))
  k_with "L call ref" => ((k_here; (with_reducible show wpAny _ _ (call (Value.ref 219) _) _ _ _); k_dflt (refine rd_use c_confrow (by k_asm) (by k_asm) (by k_asm) (by k_asm) (by k_asm) (by first | exact rfl | assumption) (by assumption) (by ktr_room) (by ktr_units) ?_)); rintro _ _ _ _ _ _ _ ho9; obtain ⟨_, _, _, rfl, _, _⟩ := tupLit ho9; walk_at "nz")
  k_with "L call ref" => ((k_here; (with_reducible show wpAny _ _ (call (Value.ref 254) _) _ _ _); k_dflt (refine rd_use c_srow (by k_asm) (by k_asm) (by k_asm) (by k_asm) (by k_asm) (by first | exact rfl | assumption) (by exact SnapAt.mono' (by assumption) (by walk_at "p9")) (by ktr_room) (by ktr_units) ?_)); rintro _ _ _ _ _ _ _ ho9; obtain ⟨_, _, _, rfl, _, _⟩ := tupLit ho9; walk_at "nz")
  k_with "L call ref" => ((k_here; (with_reducible show wpAny _ _ (call (Value.ref 170) _) _ _ _); k_dflt (refine rd_use c_erow (by k_asm) (by k_asm) (by k_asm) (by k_asm) (by k_asm) (by first | exact rfl | assumption) (by exact ⟨⟨_, _, _, _, _, _, _, _, _, _, _, _, _, _, rfl, by k_mem, by k_mem⟩, by omega, by omega, by omega, by omega⟩) (by ktr_room) (by ktr_units) ?_)); rintro _ _ _ _ _ _ _ ho9; obtain ⟨_, _, _, rfl, _, _⟩ := tupLit ho9; walk_at "nz")
  k_with "L call type:tuple" => ((k_here; (with_reducible show wpAny _ _ (call (Value.type "tuple") [Value.ref _]) _ _ _); k_dflt (refine kde_tupleOf (by k_asm) (by k_asm) (by exact led_isList (by assumption) (by k_mem)) (by (simp only [List.size_toArray]; omega)) (by exact List.toList_toArray ..) ?_)); intro _ _ _ _ _; (try k_fold))
  trivial
def confDat : Dat := .tuple [.tuple [.int 1], .tuple [], .tuple [], .tuple [], .bool false]
def snapDat (x : Sn) : Dat := .tuple [.int x.i, .int x.t, confDat, .bytes x.d]
def optDat : Option Sn → Dat
  | none => .none
  | some x => snapDat x
theorem SnapAt.mono' {news news' : Led} {sn : Addr} {x : Sn} (h : SnapAt news sn x) (hs : ∀ p ∈ news, p ∈ news') : SnapAt news' sn x := h.mono hs
theorem rd_tlA {h₀ h : Heap} {L : Addr} (A : Led) {news : Led} (N : News h₀ L h (A ++ news)) : News h₀ L h (news ++ A) := kst_newsOf N fun p hp => by
  simp only [List.mem_append] at hp ⊢
  exact hp.symm
theorem ord_cons {d : Addr} {o : Obj} {news l : Led} (h : ∀ q ∈ news, q.1 < d) (k : ∀ q ∈ news, ∀ p ∈ l, q.1 < p.1) : ∀ q ∈ news, ∀ p ∈ (d, o) :: l, q.1 < p.1 := by
  intro q hq p hp
  rcases List.mem_cons.mp hp with e | e
  · rw [e]; exact h q hq
  · exact k q hq p e
section
variable {w : World} {p : Program} {loose : List Str} {mean : ExcName → Option Value} {mg mb : Str → Option Value}
set_option maxHeartbeats 8000000 in
theorem c_confrow {cf : Addr} :
   Rd 2 w p loose mean mg mb 219 [.ref cf] (fun news => ConfIn news cf) (fun _ tl q => DatIn tl q confDat) := by
  unfold Rd
  k_fill
  intro dp un gd cn cs a ccd cl outer A₀ base h₀ L m news s Q E B F X N T hk hR hd hu hret
  obtain ⟨cdx, a1, a2, a3, a4, h1, h2, h3, h4, h5, t1, t2, t3, t4, t5, t6, n1, n2, n3, n4, m1, m2, m3, m4, m5, m6⟩ := hR
  refine wpAny_call ?_
  k_dflt ktr_enter
  k_steps
  rename_i Da _ la Db _ lb Dc _ lc Dd _ ld De _ _ _ le kF kN _ _
  refine hret _ _ _ _ kF (rd_tlA [_, _, _, _, _] kN) (ord_cons (kst_ltOf le.2.2.2.2) (ord_cons (kst_ltOf ld.2.2.2) (ord_cons (kst_ltOf lc.2.2) (ord_cons (kst_ltOf lb.2) (ord_cons la ktn_ord0))))) ?_
  exact .tuple (vs := [.ref Da, .ref Db, .ref Dc, .ref Dd, .bool false]) (n := 0) List.mem_cons_self
    (.cons (.tuple (vs := [.int 1 t6]) (n := 0) (by k_mem) (.cons (.int _ _) .nil)) (.cons (.tuple (vs := []) (n := 0) (by k_mem) .nil) (.cons (.tuple (vs := []) (n := 0) (by k_mem) .nil) (.cons (.tuple (vs := []) (n := 0) (by k_mem) .nil) (.cons (.bool _) .nil)))))

set_option maxHeartbeats 8000000 in
theorem c_srow {sn : Addr} {x : Sn} :
   Rd 4 w p loose mean mg mb 254 [.ref sn] (fun news => SnapAt news sn x) (fun _ tl q => DatIn tl q (snapDat x)) := by
  unfold Rd
  k_fill
  intro dp un gd cn cs a ccd cl outer A₀ base h₀ L m news s Q E B F X N T hk hR hd hu hret
  obtain ⟨sdx, cf, g1, g2, g3, g4, u1, u2, u3, u4, u5, u6, u8, m3, m4, m5⟩ := hR
  obtain ⟨cdx, _, _, _, _, _, _, _, _, _, _, _, _, _, _, _, _, _, _, _, q1, q2, _⟩ := id m5
  refine wpAny_call ?_
  k_dflt ktr_enter
  k_steps
  rename_i tl _ tk hl D vs n m9 a9 D' _ _ _ l1 kF kN _ _
  exact hret _ (_ :: tl) _ _ kF (ktn_tl2 kN) (ord_cons (fun q hq => l1 q (led_left q hq)) hl) (.tuple (vs := [.int x.i u2, .int x.t u4, .ref D, .bytes x.d u8]) (n := 0) List.mem_cons_self (.cons (.int _ _) (.cons (.int _ _) (.cons (datIn_up ho9 led_cons) (.cons (.bytes _ _) .nil)))))

theorem perm3 {a b c : Addr × Obj} {news tl : Led} : ∀ p ∈ news ++ a :: b :: c :: tl, p ∈ a :: b :: c :: (news ++ tl) := by
  intro p hp
  simp only [List.mem_append, List.mem_cons] at hp ⊢
  grind
theorem row_ord {news tl : Led} {D1 D2 D3 : Addr} {o1 o2 o3 : Obj} (h1 : ∀ q ∈ news, q.1 < D1) (h2 : ∀ q ∈ news, q.1 < D2) (h3 : ∀ q ∈ news, q.1 < D3) (h : ∀ q ∈ news, ∀ p ∈ tl, q.1 < p.1) : ∀ q ∈ news, ∀ p ∈ (D1, o1) :: (D2, o2) :: (D3, o3) :: tl, q.1 < p.1 := by
  intro q hq p hp
  simp only [List.mem_cons] at hp
  rcases hp with rfl | rfl | rfl | hp
  · exact h1 q hq
  · exact h2 q hq
  · exact h3 q hq
  · exact h q hq p hp
/-- rows that fit -/
def Fits (rs : List Rw) : Prop := ∀ r ∈ rs, 0 ≤ r.t ∧ r.t < 1000 ∧ 0 ≤ r.i ∧ r.i < 1000
set_option maxHeartbeats 8000000 in
theorem c_row {lg dx el : Addr} {n : Nat} {vs : List Value} {rs : List Rw} {sv : Value} {off : Int} {S : Option Sn} :
   Rd 8 w p loose mean mg mb 135 [.ref lg] (fun news => LogAt news lg dx sv el off ∧ (el, listOf vs.toArray n) ∈ news ∧ EntAll news vs rs ∧ SnapIn news sv S ∧ rs.length < 1000 ∧ Fits rs)
     (fun _ tl q => DatIn tl q (.tuple [.int off, .tuple (rs.map Rw.dat), optDat S])) := by
  unfold Rd
  k_fill
  intro dp un gd cn cs a ccd cl outer A₀ base h₀ L m news s Q E B F X N T hk hR hd hu hret
  obtain ⟨⟨h1, h2, h3, t1, t2, t3, t4, m1, m2⟩, ml, hv, hS, b1, b2⟩ := hR
  have len := hv.length
  refine wpAny_call ?_
  k_dflt ktr_enter
  k_steps
  rename_i ro _ l1 h1' F' N'
  have hn : ∀ p ∈ news, p.1 ≠ ro := fun p hp => Nat.ne_of_lt (l1 p hp)
  have kMk := kstMark
  refine it_list (vs := vs) [] (fun i nx => ∃ ys e tl, nx = (ro, listOf (List.toArray ys) e) :: (news ++ tl) ∧ (∀ q ∈ news, ∀ p ∈ tl, q.1 < p.1) ∧ (∀ p ∈ tl, p.1 ≠ ro) ∧ DatAll tl ys ((rs.take i).map Rw.dat)) rfl (by k_mem) F' N' ⟨[], 0, [], by rw [List.append_nil], fun _ _ _ h => (nomatch h), fun _ h => (nomatch h), .nil⟩ ?_ ?_
  · rintro i v u nx h tk own hvi hoff hm ⟨ys, e, tl, rfl, htl, hro, hys⟩ F9 N9
    have ho : ∀ p ∈ own, p.1 ≠ ro := hoff.ne (by simp)
    obtain ⟨r, hr, a9, dx9, h91, h92, h93, h94, t91, t92, t93, t94, t95, t96, t97, t98, rfl, m91, m92⟩ := hv.get hvi
    obtain ⟨f1, f2, f3, f4⟩ := b2 r (List.mem_of_getElem? hr)
    have hi : i < rs.length := (List.getElem?_eq_some_iff.mp hr).1
    have hyl : ys.length = i := by rw [hys.length, List.length_map, List.length_take]; omega
    clear N'
    simp only [List.cons_append, List.append_assoc] at N9
    k_steps
    rename_i tl9 _ _ hl9 D9 vs9 n9 m9 a9 _ F' N'
    rw [List.push_toArray] at N'
    have hro9 : ∀ p ∈ tl9, p.1 ≠ ro := ne_of_ord hl9 List.mem_cons_self
    refine InvEndG.intro (nx := (ro, listOf (ys ++ [Value.ref D9]).toArray (e + 1)) :: (news ++ (tl ++ tl9))) F' N' ⟨?_, (fun z hz _ => by simp only [if_neg hz]; rfl), ys ++ [.ref D9], e + 1, tl ++ tl9, rfl, ?_, ?_, ?_⟩ ?_ ?_ ?_
    · exact List.mem_cons_of_mem _ (List.mem_append.mpr (.inl ml))
    · intro q hq p hp
      rcases List.mem_append.mp hp with h | h
      · exact htl q hq p h
      · exact hl9 q (List.mem_cons_of_mem _ (List.mem_append.mpr (.inl hq))) p h
    · exact List.forall_mem_append.mpr ⟨hro, hro9⟩
    · rw [List.take_add_one, hr, List.map_append]
      exact (datAll_up hys led_left).append (.one (datIn_up ho9 led_right))
    · intro p hp b hb
      simp only [List.map_cons, List.mem_cons] at hb
      rcases hb with h | h
      · rw [h]; exact ho p hp
      · obtain ⟨q, hq, rfl⟩ := List.mem_map.mp h
        simp only [List.mem_append] at hq
        rcases hq with h | h | h
        · exact hoff p hp _ (List.mem_map_of_mem (List.mem_cons_of_mem _ (List.mem_append.mpr (.inl h))))
        · exact hoff p hp _ (List.mem_map_of_mem (List.mem_cons_of_mem _ (List.mem_append.mpr (.inr h))))
        · exact Nat.ne_of_lt (hl9 p (by simp only [List.mem_cons, List.mem_append]; exact .inr (.inr (.inr hp))) q h)
    · intro p hp
      simp only [List.mem_cons, List.mem_append] at hp ⊢
      grind
    · intro p hp
      simp only [List.mem_cons, List.mem_append]
      exact .inr (.inr (.inr (.inl hp)))
  · rintro u nx h tk ⟨ys, e, tl, rfl, htl, hro, hys⟩ F9 N9
    clear N'
    rw [len, List.take_length] at hys
    have hyl : ys.length = rs.length := by rw [hys.length, List.length_map]
    cases S with
    | none =>
      simp only [SnapIn] at hS
      subst hS
      k_steps
      rename_i D h9 l2 D' h' F' N' l3 kF kN _ _
      refine hret _ ((D', _) :: (D, _) :: (ro, _) :: tl) _ _ kF (fun p hp => kN p (perm3 p hp)) (row_ord (fun q hq => kst_ltOf l3.2.2 q (led_left q hq)) (fun q hq => l2 q (List.mem_cons_of_mem _ (led_left q hq))) l1 htl) ?_
      exact .tuple (vs := [.int off t4, .ref D, .none]) (n := 0) List.mem_cons_self (.cons (.int _ _) (.cons (.tuple (vs := ys) (n := 0) (List.mem_cons_of_mem _ List.mem_cons_self) (datAll_up hys fun p hp => List.mem_cons_of_mem _ (List.mem_cons_of_mem _ (List.mem_cons_of_mem _ hp)))) (.cons .none .nil)))
    | some x =>
      simp only [SnapIn] at hS
      obtain ⟨sn, rfl, hS⟩ := hS
      obtain ⟨sdx, cf, g1, g2, g3, g4, u1, u2, u3, u4, u5, u6, u8, m3, m4, m5⟩ := id hS
      k_steps
      rename_i tl9 h9 tk9 hl9 D9 vs9 n9 m9 a9 _ _ _ D _ l2 D' _ _ _ l3 kF kN _ _
      refine hret _ ((D', _) :: (D, _) :: (ro, _) :: (tl ++ tl9)) _ _ kF (fun p hp => kN p (perm3 p hp)) (row_ord (fun q hq => kst_ltOf l3.2.2 q (led_left q hq)) (fun q hq => l2 q (List.mem_cons_of_mem _ (led_left q hq))) l1 ?_) ?_
      · intro q hq p hp
        rcases List.mem_append.mp hp with h | h
        · exact htl q hq p h
        · exact hl9 q (List.mem_cons_of_mem _ (led_left q hq)) p h
      exact .tuple (vs := [.int off t4, .ref D, .ref D9]) (n := 0) List.mem_cons_self (.cons (.int _ _) (.cons (.tuple (vs := ys) (n := 0) (List.mem_cons_of_mem _ List.mem_cons_self) (datAll_up hys fun p hp => List.mem_cons_of_mem _ (List.mem_cons_of_mem _ (List.mem_cons_of_mem _ (led_left p hp))))) (.cons (datIn_up ho9 fun p hp => List.mem_cons_of_mem _ (List.mem_cons_of_mem _ (List.mem_cons_of_mem _ (led_right p hp)))) .nil)))
end

end
section
theorem reg_G_rows2 : True := by
  k_with_none
  k_with "som" => ((try simp only [List.length_append, List.length_take, List.length_drop, List.length_cons, List.length_nil]); omega)
  k_with "mem9" => first | with_reducible exact List.mem_cons_self | (with_reducible refine List.mem_cons_of_mem _ ?_; walk_at "mem9") | (with_reducible refine List.mem_append_left _ ?_; walk_at "mem9") | (with_reducible refine List.mem_append_right _ ?_; walk_at "mem9") | with_reducible assumption
  k_with "q9" => first | with_reducible exact sub_refl | (with_reducible refine sub_tail ?_; walk_at "q9") | (with_reducible refine sub_left ?_; walk_at "q9") | (with_reducible refine sub_right ?_; walk_at "q9") | with_reducible assumption
  k_with "p9" => first | with_reducible exact sub_nil | (with_reducible refine sub_cons ?_ ?_; walk_at "mem9"; walk_at "p9") | (with_reducible refine sub_app ?_ ?_; walk_at "p9"; walk_at "p9") | walk_at "q9"
  k_with "L call builtin:len" => (k_here; (with_reducible show wpAny _ _ (call (Value.builtin "len") [Value.ref _]) _ _ _); k_dflt (refine led_len (by k_asm) (by k_mem) (by walk_at "som") ?_; k_whole))
  k_with "L subscriptTail" => ((k_here; (with_reducible show wpAny _ _ (subscriptTail _ _ (Value.ref _) (Value.int _ _)) _ _ _); k_dflt (refine led_item (by k_asm) (by k_mem) (by omega) (by walk_at "som") (by walk_at "som") (by with_unfolding_all rfl) ?_; k_whole)); first | walk_at "it" | (intro _ _))
  k_with "L subscriptTail" => ((k_here; (with_reducible show wpAny _ _ (subscriptTail _ (PySem.Expr.Slice _ _ none _) (Value.ref _) (Value.ref _)) _ _ _); k_dflt (refine led_slice (by k_asm) (by k_asm) (by k_mem) (by kmk_part) (by kmk_part) (by walk_at "som") (by with_unfolding_all rfl) (by kmk_pure) ?_; k_whole)); walk_at "al")
  k_with "L binaryOp Add" => ((k_here; (with_reducible show wpAny _ _ (binaryOp _ (Value.ref _) (Value.ref _)) _ _ _); k_dflt (refine led_add (by k_asm) (by k_asm) (by k_mem) (by k_mem) (by walk_at "som") (by walk_at "som") ?_; k_whole)); walk_at "al")
  k_with "L binaryOp Add ref ref" => ((k_here; (with_reducible show wpAny _ _ (binaryOp _ (Value.ref _) (Value.ref _)) _ _ _); k_dflt (refine led_add (by k_asm) (by k_asm) (by k_mem) (by k_mem) (by walk_at "som") (by walk_at "som") ?_; k_whole)); walk_at "al")
  k_with "L call builtin:list.append" => ((with_reducible show wpAny _ _ (call (Value.builtin _) ([_] ++ _)) _ _ _); dsimp only [List.cons_append, List.nil_append])
  k_with "L call type:tuple" => ((k_here; (with_reducible show wpAny _ _ (call (Value.type "tuple") [Value.ref _]) _ _ _); k_dflt (refine kde_tupleOf (by k_asm) (by k_asm) (by exact led_isList (by assumption) (by k_mem)) (by (simp only [List.size_toArray, List.length_drop, List.length_take]; omega)) (by exact List.toList_toArray ..) ?_)); intro _ _ _ _ _; (try k_fold))
  k_with "L call ref" => ((k_here; (with_reducible show wpAny _ _ (call (Value.ref 170) _) _ _ _); k_dflt (refine rd_use c_erow (by k_asm) (by k_asm) (by k_asm) (by k_asm) (by k_asm) (by first | exact rfl | assumption) (by exact ⟨⟨_, _, _, _, _, _, _, _, _, _, _, _, _, _, rfl, by k_mem, by k_mem⟩, by omega, by omega, by omega, by omega⟩) (by ktr_room) (by ktr_units) ?_)); rintro _ _ _ _ _ _ _ ho9; obtain ⟨_, _, _, rfl, _, _⟩ := tupLit ho9; walk_at "nz")
  k_with "L eval ListComp" => (k_here; k_dflt (refine LCg.ListComp_U (F₀ := by k_asm) (by with_unfolding_all rfl) (by decide) (by rfl) (by decide) (by rfl) ?_))
  k_with "L CompSrc" => (refine held ?_)
  trivial
section
variable {prog : Program} {w : World} {A : Around} {s : Shared} {h₀ : Heap} {L : Addr} {m : Str → Option Value} {env : Env} {elt : PySem.Expr} {x : Str} {scope : Scope} {cl : List (Str × Addr)} {S : Led → Prop} {Fin : List Value → Led → Prop}
/-- a comprehension, turn by turn -/
theorem comp_turns {P : Nat → Value → Prop} {n : Nat} (J : Nat → List Value → Led → Prop)
    (turn : ∀ i v ys nx I oI C oC D m₂ h tk (E' : Value → Shared → Prop), i < n → P i v → J i ys nx → LCg.NsObj oC m₂ → m₂ x = some v → Fr h₀ L h m → News h₀ L h ((I, oI) :: (C, oC) :: (D, LCg.lst ys) :: nx) → LCg.Off3 I C D nx → ((@Ne Nat I C) ∧ (@Ne Nat I D) ∧ (@Ne Nat C D)) →
      wpAny (model prog w) A (eval elt (compEnvC scope cl C env)) (LCg.CompEnd h₀ L m { s with heap := h, toks := tk } I oI C oC D (LCg.lst ys) S (fun y nx' => J (i + 1) (ys ++ [y]) nx')) E' { s with heap := h, toks := tk })
    (fin : ∀ ys nx, J n ys nx → Fin ys nx) : ∀ (k i : Nat) (ys : List Value) (nx : Led), i + k = n → J i ys nx → LCg.CompRest prog w A h₀ L m env elt x scope cl s S P Fin k i ys nx
  | 0, i, ys, nx, e, hj => LCg.CompRest.zero (fin ys nx (by rw [show n = i by omega]; exact hj))
  | k + 1, i, ys, nx, e, hj => by
    refine LCg.CompRest.succ fun v I oI C oC D m₂ h tk E' hp hC hx F N off ne => ?_
    refine wpAny_mono (turn i v ys nx I oI C oC D m₂ h tk E' (by omega) hp hj hC hx F N off ne) ?_ fun _ _ e => e
    rintro y s₂ ⟨h', tk', nx', e1, e2, e3, e4, e5, e6⟩
    exact ⟨h', tk', nx', e1, e2, e3, e4, e5, comp_turns J turn fin k (i + 1) _ _ (by omega) e6⟩
theorem comp_ledger {ax : Addr} {vs : List Value} {c : Nat} {news : Led} {Fin : Shared → List Value → Led → Prop} {s₁ : Shared} (J : Nat → List Value → Led → Prop)
    (hh : A.handled = none) (F : Fr h₀ L s₁.heap m) (N : News h₀ L s₁.heap news) (hm : (ax, listOf vs.toArray c) ∈ news) (hf : vs.length < 100000) (hj : J 0 [] news)
    (turn : ∀ (g : Heap) i v ys nx I oI C oC D m₂ h tk (E' : Value → Shared → Prop), i < vs.length → vs[i]? = some v → J i ys nx → LCg.NsObj oC m₂ → m₂ x = some v → Fr h₀ L h m → News h₀ L h ((I, oI) :: (C, oC) :: (D, LCg.lst ys) :: nx) → LCg.Off3 I C D nx → ((@Ne Nat I C) ∧ (@Ne Nat I D) ∧ (@Ne Nat C D)) →
      wpAny (model prog w) A (eval elt (compEnvC scope cl C env)) (LCg.CompEnd h₀ L m { s₁ with heap := h, toks := tk } I oI C oC D (LCg.lst ys) (fun nx => (ax, listOf vs.toArray c) ∈ nx) (fun y nx' => J (i + 1) (ys ++ [y]) nx')) E' { s₁ with heap := h, toks := tk })
    (fin : ∀ g ys nx, J vs.length ys nx → Fin { s₁ with heap := g } ys nx) : LCg.CompSrc prog w A h₀ L m env elt x scope cl Fin (.ref ax) s₁ := by
  refine LCg.CompSrc.ledger hh F N hm (by rw [List.size_toArray, PySem.sizeLine_eq]; omega) fun g => ?_
  refine comp_turns (n := vs.length) J ?_ (fin g) _ 0 [] news (by rw [List.size_toArray]; omega) hj
  intro i v ys nx I oI C oC D m₂ h tk E' hi hp hj hC hx F N off ne
  refine wpAny_mono (turn g i v ys nx I oI C oC D m₂ h tk E' hi (by simpa using hp) hj hC hx F N off ne) ?_ fun _ _ e => e
  rintro y s₂ ⟨h', tk', nx', e1, e2, e3, e4, e5, e6⟩
  exact ⟨h', tk', nx', e1, e2, e3, e4, .inr ⟨_, e5, rfl, _, rfl⟩, e6⟩
end
theorem perm_one {a : Addr × Obj} {news tl : Led} : ∀ p ∈ news ++ a :: tl, p ∈ a :: (news ++ tl) := by
  intro p hp
  simp only [List.mem_append, List.mem_cons] at hp ⊢
  grind
/-- a goal that the walk leaves alone -/
def Held (p : Prop) : Prop := p
theorem held {p : Prop} (h : Held p) : p := h
theorem off1_ne {D : Addr} : ∀ {l : Led}, LCg.Off1 D l → ∀ p ∈ l, p.1 ≠ D
  | [], _, _, h => nomatch h
  | _ :: _, x, p, h => by
    rcases List.mem_cons.mp h with rfl | h
    · exact x.1
    · exact off1_ne x.2 p h

/-- a call that changes nothing that stood; what it makes stands apart from it -/
def Ro (k : Nat) (w : World) (p : Program) (loose : List Str) (mean : ExcName → Option Value) (mg mb : Str → Option Value) (f : Addr) (vs : List Value)
    (Pre : Led → Prop) (Out : Led → Led → Value → Prop) : Prop :=
  ∀ (dp un : Nat) (gd : Option (List Code)) (cn : Str) (cs : Scope) (a : Addr) (ccd : Value) (cl : List (Str × Addr)) (outer : List Env) (A₀ : Around) (base h₀ : Heap) (L : Addr) (m : Str → Option Value) (news : Led) (s : Shared)
    (Q E : Value → Shared → Prop),
    Below A₀ base outer h₀ → Fr h₀ L s.heap m → (hd.heap_1 w.params).In h₀ → News h₀ L s.heap news → Top p loose mean mg mb h₀ → cs.kind = .function → Pre news → dp + k < recursionLimit → un + 40 * k < cLine →
    (∀ r tl h' tk', Fr h₀ L h' m → News h₀ L h' (news ++ tl) → (∀ q ∈ news, ∀ p ∈ tl, p.1 ≠ q.1) → Out news tl r → Q r { s with heap := h', toks := tk' }) →
    wpAny (model PySem.Challenge.rw_no0401_01.row.prog w) (ktrTop dp un gd cn cs L a ccd cl outer) (call (.ref f) vs) Q E s
section
variable {k : Nat} {w : World} {p : Program} {loose : List Str} {mean : ExcName → Option Value} {mg mb : Str → Option Value} {f : Addr} {vs : List Value} {Pre : Led → Prop}
    {dp un : Nat} {gd : Option (List Code)} {cn : Str} {cs : Scope} {a : Addr} {ccd : Value} {cl : List (Str × Addr)} {outer : List Env} {A₀ : Around} {base h₀ : Heap} {L : Addr} {m : Str → Option Value} {news : Led} {s : Shared} {Q E : Value → Shared → Prop}
theorem ro_use {Out : Led → Led → Value → Prop} (C : Ro k w p loose mean mg mb f vs Pre Out) (B : Below A₀ base outer h₀) (F : Fr h₀ L s.heap m) (X : (hd.heap_1 w.params).In h₀) (N : News h₀ L s.heap news) (T : Top p loose mean mg mb h₀) (hk : cs.kind = .function) (hp : Pre news) (hd : dp + k < recursionLimit) (hu : un + 40 * k < cLine)
    (ret : ∀ r tl h' tk', Fr h₀ L h' m → News h₀ L h' (news ++ tl) → (∀ q ∈ news, ∀ p ∈ tl, p.1 ≠ q.1) → Out news tl r → Q r { s with heap := h', toks := tk' }) :
    wpAny (model PySem.Challenge.rw_no0401_01.row.prog w) (ktrTop dp un gd cn cs L a ccd cl outer) (call (.ref f) vs) Q E s := C _ _ _ _ _ _ _ _ _ _ _ _ _ _ _ _ _ _ B F X N T hk hp hd hu ret
end
section
variable {w : World} {p : Program} {loose : List Str} {mean : ExcName → Option Value} {mg mb : Str → Option Value}

set_option maxHeartbeats 8000000 in
theorem c_rows {l : Addr} {c : Nat} {vs : List Value} {rs : List Rw} :
   Ro 4 w p loose mean mg mb 287 [.ref l] (fun news => (l, listOf vs.toArray c) ∈ news ∧ EntAll news vs rs ∧ rs.length < 1000 ∧ Fits rs)
     (fun _ tl r => ∃ D ys, r = .ref D ∧ (D, listOf ys.toArray ys.length) ∈ tl ∧ DatAll tl ys (rs.map Rw.dat)) := by
  unfold Ro
  k_fill
  intro dp un gd cn cs a ccd cl outer A₀ base h₀ L m news s Q E B F X N T hk hR hd hu hret
  obtain ⟨ml, hv, b1, b2⟩ := hR
  have len := hv.length
  refine wpAny_call ?_
  k_dflt ktr_enter
  k_steps
  unfold Held
  refine comp_ledger (fun i ys nx => ∃ tl, nx = news ++ tl ∧ (∀ q ∈ news, ∀ p ∈ tl, p.1 ≠ q.1) ∧ DatAll tl ys ((rs.take i).map Rw.dat)) (by rfl) (by assumption) (by assumption) ml (by omega) ⟨[], by rw [List.append_nil], fun _ _ _ h => (nomatch h), .nil⟩ ?_ ?_
  · rintro g i v ys nx I oI C oC D m₂ h tk E' hi hvi ⟨tl, rfl, htl, hys⟩ hC hx F9 N9 off ne
    obtain ⟨r, hr, a9, dx9, h91, h92, h93, h94, t91, t92, t93, t94, t95, t96, t97, t98, rfl, m91, m92⟩ := hv.get hvi
    obtain ⟨f1, f2, f3, f4⟩ := b2 r (List.mem_of_getElem? hr)
    rename News _ _ _ news => Nx
    clear Nx
    have off3 := off.mem
    k_steps
    rename_i tl9 h9 tk9 F9 hl9 D9 vs9 n9 m9 a9 N9
    refine LCg.CompEnd.intro F9 N9 (news ++ (tl ++ tl9)) (fun p hp => hp) (LCg.Off3.of ?_) (List.mem_append.mpr (.inl ml)) ⟨tl ++ tl9, rfl, ?_, ?_⟩
    · intro p hp
      rw [← List.append_assoc] at hp
      rcases List.mem_append.mp hp with hp | hp
      · exact off3 p hp
      · exact ⟨fun e => Nat.lt_irrefl p.1 (e ▸ hl9 (I, oI) (by simp) p hp), fun e => Nat.lt_irrefl p.1 (e ▸ hl9 (C, oC) (by simp) p hp), fun e => Nat.lt_irrefl p.1 (e ▸ hl9 (D, LCg.lst ys) (by simp) p hp)⟩
    · intro q hq p hp
      rcases List.mem_append.mp hp with hp | hp
      · exact htl q hq p hp
      · exact Nat.ne_of_gt (hl9 q (by simp [hq]) p hp)
    · rw [List.take_add_one, hr, List.map_append]
      exact (datAll_up hys led_left).append (.one (datIn_up ho9 led_right))
  · rintro g ys nx ⟨tl, rfl, htl, hys⟩
    rename News _ _ _ news => Nx
    clear Nx
    k_steps
    rename_i D _ _ _ _ o1 kF kN _ _
    rw [len, List.take_length] at hys
    refine hret _ ((D, LCg.lst ys) :: tl) _ _ kF (fun p hp => kN p (perm_one p hp)) ?_ ⟨D, ys, rfl, List.mem_cons_self, datAll_up hys led_cons⟩
    intro q hq p hp
    rcases List.mem_cons.mp hp with rfl | hp
    · exact fun e => off1_ne o1 q (led_left q hq) e.symm
    · exact htl q hq p hp
end

end
section
theorem reg_G_tells0 : True := by
  k_with_none
  k_with "som" => ((try simp only [List.length_append, List.length_take, List.length_drop, List.length_cons, List.length_nil]); omega)
  k_with "mem9" => first | with_reducible exact List.mem_cons_self | (with_reducible refine List.mem_cons_of_mem _ ?_; walk_at "mem9") | (with_reducible refine List.mem_append_left _ ?_; walk_at "mem9") | (with_reducible refine List.mem_append_right _ ?_; walk_at "mem9") | with_reducible assumption
  k_with "q9" => first | with_reducible exact sub_refl | (with_reducible refine sub_tail ?_; walk_at "q9") | (with_reducible refine sub_left ?_; walk_at "q9") | (with_reducible refine sub_right ?_; walk_at "q9") | with_reducible assumption
  k_with "p9" => first | with_reducible exact sub_nil | (with_reducible refine sub_cons ?_ ?_; walk_at "mem9"; walk_at "p9") | (with_reducible refine sub_app ?_ ?_; walk_at "p9"; walk_at "p9") | walk_at "q9"
  k_with "L call builtin:len" => (k_here; (with_reducible show wpAny _ _ (call (Value.builtin "len") [Value.ref _]) _ _ _); k_dflt (refine led_len (by k_asm) (by k_mem) (by walk_at "som") ?_; k_whole))
  k_with "L subscriptTail" => ((k_here; (with_reducible show wpAny _ _ (subscriptTail _ _ (Value.ref _) (Value.int _ _)) _ _ _); k_dflt (refine led_item (by k_asm) (by k_mem) (by omega) (by walk_at "som") (by walk_at "som") (by with_unfolding_all rfl) ?_; k_whole)); first | walk_at "it" | (intro _ _))
  k_with "L subscriptTail" => ((k_here; (with_reducible show wpAny _ _ (subscriptTail _ (PySem.Expr.Slice _ _ none _) (Value.ref _) (Value.ref _)) _ _ _); k_dflt (refine led_slice (by k_asm) (by k_asm) (by k_mem) (by kmk_part) (by kmk_part) (by walk_at "som") (by with_unfolding_all rfl) (by kmk_pure) ?_; k_whole)); walk_at "al")
  k_with "L binaryOp Add" => ((k_here; (with_reducible show wpAny _ _ (binaryOp _ (Value.ref _) (Value.ref _)) _ _ _); k_dflt (refine led_add (by k_asm) (by k_asm) (by k_mem) (by k_mem) (by walk_at "som") (by walk_at "som") ?_; k_whole)); walk_at "al")
  k_with "L binaryOp Add ref ref" => ((k_here; (with_reducible show wpAny _ _ (binaryOp _ (Value.ref _) (Value.ref _)) _ _ _); k_dflt (refine led_add (by k_asm) (by k_asm) (by k_mem) (by k_mem) (by walk_at "som") (by walk_at "som") ?_; k_whole)); walk_at "al")
  k_with "L call builtin:list.append" => ((with_reducible show wpAny _ _ (call (Value.builtin _) ([_] ++ _)) _ _ _); dsimp only [List.cons_append, List.nil_append])
  k_with "L call type:tuple" => ((k_here; (with_reducible show wpAny _ _ (call (Value.type "tuple") [Value.ref _]) _ _ _); k_dflt (refine kde_tupleOf (by k_asm) (by k_asm) (by exact led_isList (by assumption) (by k_mem)) (by (simp only [List.size_toArray, List.length_drop, List.length_take]; omega)) (by exact List.toList_toArray ..) ?_)); intro _ _ _ _ _; (try k_fold))
  k_with "L call ref" => ((k_here; (with_reducible show wpAny _ _ (call (Value.ref 93) _) _ _ _); k_dflt (refine rd_use c_term (by k_asm) (by k_asm) (by k_asm) (by k_asm) (by k_asm) (by first | exact rfl | assumption) (by exact ⟨⟨_, _, _, _, _, _, _, by k_mem, by k_mem⟩, by k_mem, EntAll.up (by assumption) (by walk_at "p9"), SnapIn.up (by assumption) (by walk_at "p9"), by omega, by omega, by omega, by omega, by omega⟩) (by ktr_room) (by ktr_units) ?_)); rintro _ _ _ _ _ _ - ⟨rfl, ho9⟩; walk_at "nz"; (rcases isOpt_cases ho9 with ⟨rfl, _⟩ | ⟨_, _, rfl, _⟩))
  trivial
section
variable {w : World} {p : Program} {loose : List Str} {mean : ExcName → Option Value} {mg mb : Str → Option Value}
section
set_option maxHeartbeats 8000000 in
theorem c_stable_no {lg dx el : Addr} {n : Nat} {vs : List Value} {rs : List Rw} {sv : Value} {off i ter : Int} {S : Option Sn} {t5 t6 : Tok} :
   Rd 4 w p loose mean mg mb 100 [.ref lg, .int i t5, .int ter t6] (fun news => LogAt news lg dx sv el off ∧ (el, listOf vs.toArray n) ∈ news ∧ EntAll news vs rs ∧ SnapIn news sv S ∧ 0 ≤ off ∧ off < 1000 ∧ rs.length < 1000 ∧ -1000 < i ∧ i < 1000 ∧ (off ≤ i → termAt rs off S i ≠ some ter))
     (fun _ tl r => r = .none ∧ tl = []) := by
  unfold Rd
  k_fill
  intro dp un gd cn cs a ccd cl outer A₀ base h₀ L m news s Q E B F X N T hk hR hd hu hret
  obtain ⟨⟨h1, h2, h3, t1, t2, t3, t4, m1, m2⟩, ml, hv, hS, b1, b2, b3, b4, b5, hno⟩ := hR
  have len := hv.length
  refine wpAny_call ?_
  k_dflt ktr_enter
  k_steps
  · exact hret _ [] _ _ (by assumption) (ktn_tl0 (by assumption)) ktn_ord0 ⟨rfl, rfl⟩
  · exact hret _ [] _ _ (by assumption) (ktn_tl0 (by assumption)) ktn_ord0 ⟨rfl, rfl⟩
  · exact hret _ [] _ _ (by assumption) (ktn_tl0 (by assumption)) ktn_ord0 ⟨rfl, rfl⟩
  · exfalso
    obtain ⟨x, e8, e7⟩ : ∃ x, termAt rs off S i = some x ∧ x = ter := ⟨_, by assumption, by assumption⟩
    exact hno (by omega) (e7 ▸ e8)
end
set_option maxHeartbeats 8000000 in
theorem c_snapto_no {lg dx el : Addr} {sv : Value} {off i : Int} {S : Option Sn} {t5 : Tok} :
   Rd 2 w p loose mean mg mb 107 [.ref lg, .int i t5] (fun news => LogAt news lg dx sv el off ∧ SnapIn news sv S ∧ -1000 < i ∧ i < 1000 ∧ (∀ x, S = some x → x.i ≠ i))
     (fun _ tl r => r = .none ∧ tl = []) := by
  unfold Rd
  k_fill
  intro dp un gd cn cs a ccd cl outer A₀ base h₀ L m news s Q E B F X N T hk hR hd hu hret
  obtain ⟨⟨h1, h2, h3, t1, t2, t3, t4, m1, m2⟩, hS, b4, b5, hno⟩ := hR
  cases S with
  | none =>
    simp only [SnapIn] at hS
    subst hS
    refine wpAny_call ?_
    k_dflt ktr_enter
    k_steps
    exact hret _ [] _ _ (by assumption) (ktn_tl0 (by assumption)) ktn_ord0 ⟨rfl, rfl⟩
  | some x =>
    simp only [SnapIn] at hS
    obtain ⟨sn, rfl, sdx, cf, g1, g2, g3, g4, u1, u2, u3, u4, u5, u6, u8, m3, m4, m5⟩ := hS
    have hx := hno x rfl
    refine wpAny_call ?_
    k_dflt ktr_enter
    k_steps
    all_goals first | (exfalso; exact hx (by assumption)) | exact hret _ [] _ _ (by assumption) (ktn_tl0 (by assumption)) ktn_ord0 ⟨rfl, rfl⟩
end

end
section
/-- rows in a run from base, terms from one on -/
def SnI (S : Option Sn) (i : Int) : Prop := ∀ x, S = some x → x.i = i
theorem SnI.no {S : Option Sn} {i j : Int} (h : SnI S i) (e : i ≠ j) : ∀ x, S = some x → x.i ≠ j := fun x hx q => e (by rw [← h x hx, q])
structure TellsOk (nw dk : List Rw) (told bs off : Int) (S : Option Sn) (rs : List Rw) : Prop where
  rows : RowsOk nw bs
  len : nw.length < 100
  told1 : 1 ≤ told
  told2 : told ≤ nw.length
  off : off = bs + told
  rs : rs = nw.drop told.toNat
  base0 : 0 ≤ bs
  base1 : bs < 500
  snap : ∀ x, S = some x → x.i = bs ∧ nw[0]? = some ⟨x.t, x.i, #[]⟩
  fin1 : S ≠ none → (dk.drop 1).take (told.toNat - 1) = (nw.drop 1).take (told.toNat - 1)
  fin2 : S = none → dk.take told.toNat = nw.take told.toNat ∧ (told = nw.length → dk = nw)
  dlen : dk.length < 100

end
section
/-- a state of the log, as the law reckons it -/
structure St where
  now : List Rw
  told : Nat
  bs : Int
  snap : Option Sn
  fresh : Int

structure StOk (B : Int) (x : St) : Prop where
  ne : 0 < x.now.length
  rows : ∀ (k : Nat) (r : Rw), x.now[k]? = some r → r.i = x.bs + (k : Int) ∧ 1 ≤ r.t ∧ r.t ≤ x.fresh
  told1 : 1 ≤ x.told
  told2 : x.told ≤ x.now.length
  bs0 : 0 ≤ x.bs
  last : x.bs + (x.now.length : Int) ≤ B + 1
  snap : ∀ s, x.snap = some s → s.i = x.bs ∧ x.now[0]? = some ⟨s.t, s.i, #[]⟩

/-- now begins with the first m rows of a; what follows is younger -/
structure Agree (a : St) (now : List Rw) (bs : Int) (m : Nat) : Prop where
  m1 : m ≤ a.now.length
  m2 : m ≤ now.length
  same : now.take m = a.now.take m
  all : m = a.now.length ∨ m < now.length
  young : ∀ r ∈ now.drop m, a.fresh < r.t
  zero : m = 0 → a.bs < bs
  pos : 0 < m → a.bs = bs

def Safe (m told : Nat) (snap : Option Sn) : Prop := told ≤ m ∨ (snap ≠ none ∧ told = 1)

structure Inv (B : Int) (hs : List St) (written : Nat) (disk : List Rw) (cur : St) : Prop where
  here : StOk B cur
  ok : ∀ a ∈ hs, StOk B a
  fr : cur.fresh ≤ B
  disk : ∃ a, hs[written]? = some a ∧ disk = a.now
  agree : ∀ (k : Nat) (a : St), hs[k]? = some a → a.fresh ≤ cur.fresh ∧ a.bs ≤ cur.bs ∧ ∃ m, Agree a cur.now cur.bs m ∧ (written ≤ k → Safe m cur.told cur.snap)
  pair : ∀ (j k : Nat) (a b : St), j < k → hs[j]? = some a → hs[k]? = some b → a.fresh ≤ b.fresh ∧ a.bs ≤ b.bs ∧ ∃ m, Agree a b.now b.bs m ∧ (j + 1 = k → Safe m b.told b.snap)

theorem StOk.mono {B B' : Int} {x : St} (h : StOk B x) (e : B ≤ B') : StOk B' x :=
  ⟨h.ne, h.rows, h.told1, h.told2, h.bs0, by have := h.last; omega, h.snap⟩
theorem StOk.at0 {B : Int} {x : St} (h : StOk B x) : ∃ r, x.now[0]? = some r ∧ r.i = x.bs := by
  have := h.ne
  refine ⟨x.now[0], List.getElem?_eq_getElem this, ?_⟩
  have := (h.rows 0 _ (List.getElem?_eq_getElem this)).1
  omega

theorem Inv.mono {B B' : Int} {hs : List St} {w : Nat} {disk : List Rw} {cur : St} (h : Inv B hs w disk cur) (e : B ≤ B') : Inv B' hs w disk cur :=
  ⟨h.here.mono e, fun a ha => (h.ok a ha).mono e, by have := h.fr; omega, h.disk, h.agree, h.pair⟩

theorem Inv.tells {B : Int} {hs : List St} {w : Nat} {disk : List Rw} {cur : St} (h : Inv B hs w disk cur) (hB : B < 50) : TellsOk cur.now disk cur.told cur.bs (cur.bs + cur.told) cur.snap (cur.now.drop cur.told) := by
  obtain ⟨a, ha, rfl⟩ := h.disk
  obtain ⟨_, _, m, hm, hs'⟩ := h.agree w a ha
  have hs' := hs' (Nat.le_refl _)
  have hc := h.here
  have hka := h.ok a (List.mem_of_getElem? ha)
  have l1 := hc.last
  have l2 := hc.bs0
  have l3 := hka.last
  have l4 := hka.bs0
  have f := h.fr
  have t1 := hc.told1
  have t2 := hc.told2
  have ht : ∀ k, k ≤ m → a.now.take k = cur.now.take k := by
    intro k hk
    have := congrArg (List.take k) hm.same
    rw [List.take_take, List.take_take, Nat.min_eq_left hk] at this
    exact this.symm
  constructor
  · intro k r hr
    have := hc.rows k r hr
    omega
  · omega
  · omega
  · omega
  · rfl
  · simp
  · omega
  · have := hc.ne; omega
  · exact hc.snap
  · intro hsn
    rw [Int.toNat_natCast]
    rcases hs' with h1 | ⟨_, h1⟩
    · rw [← List.drop_take, ← List.drop_take, ht _ h1]
    · rw [h1]; simp
  · intro hsn
    rw [Int.toNat_natCast]
    rcases hs' with h1 | ⟨h1, _⟩
    · refine ⟨ht _ h1, fun e => ?_⟩
      have e : cur.told = cur.now.length := by omega
      have em : m = cur.now.length := by have := hm.m2; omega
      rcases hm.all with h2 | h2
      · have := ht m (Nat.le_refl _)
        rw [em, List.take_length] at this
        rw [← this, List.take_of_length_le (by omega)]
      · omega
    · exact absurd hsn h1
  · omega

end
section
section
variable {B : Int} {hs : List St} {w : Nat} {disk : List Rw} {cur : St}

theorem Agree.head {a : St} {now : List Rw} {bs : Int} {m : Nat} (h : Agree a now bs m) {k : Nat} (hk : k ≤ m) : now.take k = a.now.take k := by
  have := congrArg (List.take k) h.same
  rwa [List.take_take, List.take_take, Nat.min_eq_left hk] at this
theorem Agree.at {a : St} {now : List Rw} {bs : Int} {m : Nat} (h : Agree a now bs m) {k : Nat} (hk : k < m) : now[k]? = a.now[k]? := by
  have := congrArg (fun l => l[k]?) h.same
  simpa [List.getElem?_take, hk] using this
theorem Agree.self {a : St} {b : Int} (h : StOk b a) : Agree a a.now a.bs a.now.length :=
  ⟨Nat.le_refl _, Nat.le_refl _, rfl, .inl rfl, by simp, by have := h.ne; omega, fun _ => rfl⟩
/-- an old row of now lies where both agree -/
theorem Agree.old {a : St} {now : List Rw} {bs : Int} {m k : Nat} {r : Rw} (h : Agree a now bs m) (hr : now[k]? = some r) (ht : r.t ≤ a.fresh) : k < m := by
  rcases Nat.lt_or_ge k m with h1 | h1
  · exact h1
  · exfalso
    have : r ∈ now.drop m := List.mem_of_getElem? (i := k - m) (by rw [List.getElem?_drop, Nat.add_sub_cancel' h1, hr])
    have := h.young r this
    omega

/-- a leader's rows, put at c -/
def put (cur : St) (c : Nat) (rows : List Rw) : St := ⟨cur.now.take c ++ rows, min cur.told c, cur.bs, cur.snap, cur.fresh + 1⟩
def RowsNew (rows : List Rw) (i f : Int) : Prop := ∀ (k : Nat) (r : Rw), rows[k]? = some r → r.i = i + (k : Int) ∧ r.t = f

theorem Agree.put {a : St} {c m : Nat} {rows : List Rw} (h : Agree a cur.now cur.bs m) (hf : a.fresh ≤ cur.fresh) (hc : 1 ≤ c) (hc' : c ≤ cur.now.length) (hr : 0 < rows.length) (hn : RowsNew rows (cur.bs + c) (cur.fresh + 1)) :
    Agree a (cur.now.take c ++ rows) cur.bs (min m c) := by
  have lt : (cur.now.take c).length = c := by rw [List.length_take]; omega
  have hy : ∀ r ∈ rows, a.fresh < r.t := by
    intro r hr
    obtain ⟨k, hk⟩ := List.getElem?_of_mem hr
    have := (hn k r hk).2
    omega
  refine ⟨by have := h.m1; omega, by rw [List.length_append, lt]; omega, ?_, .inr (by rw [List.length_append, lt]; omega), ?_, fun e => h.zero (by omega), fun e => h.pos (by omega)⟩
  · rw [List.take_append_of_le_length (by omega), List.take_take, Nat.min_eq_left (by omega)]
    exact h.head (by omega)
  · intro r hr
    rw [List.drop_append] at hr
    rcases List.mem_append.mp hr with h1 | h1
    · rcases Nat.le_total m c with hmc | hmc
      · rw [Nat.min_eq_left hmc] at h1
        refine h.young r ?_
        rw [List.drop_take] at h1
        exact List.mem_of_mem_take h1
      · rw [Nat.min_eq_right hmc, List.drop_of_length_le (by omega)] at h1
        cases h1
    · exact hy r (List.mem_of_mem_drop h1)

theorem Inv.put {c : Nat} {rows : List Rw} (h : Inv B hs w disk cur) (hc : 1 ≤ c) (hc' : c ≤ cur.now.length) (hr : 0 < rows.length) (hr' : rows.length ≤ 3) (hn : RowsNew rows (cur.bs + c) (cur.fresh + 1)) :
    Inv (B + 3) hs w disk (put cur c rows) := by
  have hq := h.here
  have lt : (cur.now.take c).length = c := by rw [List.length_take]; omega
  have f := h.fr
  have f0 : 1 ≤ cur.fresh := by
    obtain ⟨r, h1, _⟩ := hq.at0
    have := hq.rows 0 r h1
    omega
  have l1 := hq.last
  have t1 := hq.told1
  have t2 := hq.told2
  refine ⟨⟨?_, ?_, ?_, ?_, hq.bs0, ?_, ?_⟩, fun a ha => (h.ok a ha).mono (by omega), ?_, h.disk, ?_, h.pair⟩
  · show 0 < (cur.now.take c ++ rows).length
    rw [List.length_append]; omega
  · show ∀ (k : Nat) (r : Rw), (cur.now.take c ++ rows)[k]? = some r → r.i = cur.bs + (k : Int) ∧ 1 ≤ r.t ∧ r.t ≤ cur.fresh + 1
    intro k r hk
    rw [List.getElem?_append] at hk
    split at hk
    · rw [List.getElem?_take] at hk
      split at hk
      · have := hq.rows k r hk
        omega
      · cases hk
    · have := hn _ r hk
      omega
  · show 1 ≤ min cur.told c
    omega
  · show min cur.told c ≤ (cur.now.take c ++ rows).length
    rw [List.length_append]; omega
  · show cur.bs + ((cur.now.take c ++ rows).length : Int) ≤ B + 3 + 1
    rw [List.length_append]; omega
  · show ∀ s, cur.snap = some s → s.i = cur.bs ∧ (cur.now.take c ++ rows)[0]? = some ⟨s.t, s.i, #[]⟩
    intro s hs
    obtain ⟨h1, h2⟩ := hq.snap s hs
    refine ⟨h1, ?_⟩
    rw [List.getElem?_append_left (by omega), List.getElem?_take, if_pos (by omega), h2]
  · show cur.fresh + 1 ≤ B + 3
    omega
  · intro k a ha
    obtain ⟨h1, h2, m, h3, h4⟩ := h.agree k a ha
    refine ⟨by show a.fresh ≤ cur.fresh + 1; omega, h2, min m c, h3.put h1 hc hc' hr hn, fun hk => ?_⟩
    show Safe (min m c) (min cur.told c) cur.snap
    rcases h4 hk with h5 | ⟨h5, h6⟩
    · exact .inl (by omega)
    · exact .inr ⟨h5, by omega⟩

/-- only a fresh term is spent -/
theorem Inv.spent (h : Inv B hs w disk cur) : Inv (B + 3) hs w disk { cur with fresh := cur.fresh + 1 } := by
  have hq := h.here
  have l1 := hq.last
  have f := h.fr
  refine ⟨⟨hq.ne, fun k r hk => ?_, hq.told1, hq.told2, hq.bs0, ?_, hq.snap⟩, fun a ha => (h.ok a ha).mono (by omega), ?_, h.disk, fun k a ha => ?_, h.pair⟩
  · have := hq.rows k r hk
    show r.i = cur.bs + (k : Int) ∧ 1 ≤ r.t ∧ r.t ≤ cur.fresh + 1
    omega
  · show cur.bs + (cur.now.length : Int) ≤ B + 3 + 1
    omega
  · show cur.fresh + 1 ≤ B + 3
    omega
  · obtain ⟨h1, h2, m, h3, h4⟩ := h.agree k a ha
    exact ⟨by show a.fresh ≤ cur.fresh + 1; omega, h2, m, h3, h4⟩

/-- a save handed out -/
theorem Inv.save (h : Inv B hs w disk cur) : Inv B (hs ++ [cur]) w disk cur := by
  have hq := h.here
  obtain ⟨d, hd, hdd⟩ := h.disk
  have hw : w < hs.length := (List.getElem?_eq_some_iff.mp hd).1
  refine ⟨hq, fun a ha => ?_, h.fr, ⟨d, by rw [List.getElem?_append_left hw, hd], hdd⟩, fun k a ha => ?_, fun j k a b hjk ha hb => ?_⟩
  · rcases List.mem_append.mp ha with h1 | h1
    · exact h.ok a h1
    · rw [List.mem_singleton.mp h1]; exact hq
  · rw [List.getElem?_append] at ha
    split at ha
    · exact h.agree k a ha
    · have e : a = cur := by
        rw [List.getElem?_singleton] at ha
        split at ha
        · exact (Option.some.inj ha).symm
        · cases ha
      subst e
      exact ⟨Int.le_refl _, Int.le_refl _, _, Agree.self hq, fun _ => .inl hq.told2⟩
  · rw [List.getElem?_append] at hb
    split at hb
    · rename_i hk
      rw [List.getElem?_append_left (by omega)] at ha
      exact h.pair j k a b hjk ha hb
    · rename_i hk
      rw [List.getElem?_singleton] at hb
      split at hb
      · cases hb
        rw [List.getElem?_append_left (by omega)] at ha
        obtain ⟨h1, h2, m, h3, h4⟩ := h.agree j a ha
        exact ⟨h1, h2, m, h3, fun e => h4 (by omega)⟩
      · cases hb

/-- a newer snapshot -/
def fresher (cur : St) (at_ : Int) (d : Array UInt8) : St := ⟨[⟨cur.fresh + 1, at_, #[]⟩], 1, at_, some ⟨at_, cur.fresh + 1, d⟩, cur.fresh + 1⟩
theorem Inv.restore {at_ : Int} {d : Array UInt8} (h : Inv B hs w disk cur) (h1 : cur.bs < at_) (h2 : at_ ≤ cur.bs + cur.now.length + 1) : Inv (B + 3) hs w disk (fresher cur at_ d) := by
  have hq := h.here
  have l1 := hq.last
  have f := h.fr
  have b0 := hq.bs0
  have f0 : 1 ≤ cur.fresh := by
    obtain ⟨r, h1, _⟩ := hq.at0
    have := hq.rows 0 r h1
    omega
  refine ⟨⟨Nat.zero_lt_one, fun k r hk => ?_, Nat.le_refl 1, Nat.le_refl 1, ?_, ?_, fun s hs => ?_⟩, fun a ha => (h.ok a ha).mono (by omega), ?_, h.disk, fun k a ha => ?_, h.pair⟩
  · cases k with
    | zero =>
      cases hk
      show at_ = at_ + ((0 : Nat) : Int) ∧ 1 ≤ cur.fresh + 1 ∧ cur.fresh + 1 ≤ cur.fresh + 1
      omega
    | succ k => cases hk
  · show 0 ≤ at_
    omega
  · show at_ + ((1 : Nat) : Int) ≤ B + 3 + 1
    omega
  · cases hs
    exact ⟨rfl, rfl⟩
  · show cur.fresh + 1 ≤ B + 3
    omega
  · obtain ⟨g1, g2, m, g3, g4⟩ := h.agree k a ha
    refine ⟨by show a.fresh ≤ cur.fresh + 1; omega, by show a.bs ≤ at_; omega, 0, ⟨Nat.zero_le _, Nat.zero_le _, rfl, .inr Nat.zero_lt_one, fun r hr => ?_, fun _ => by show a.bs < at_; omega, fun e => absurd e (Nat.lt_irrefl 0)⟩, fun _ => .inr ⟨by simp [fresher], rfl⟩⟩
    have : r = ⟨cur.fresh + 1, at_, #[]⟩ := by simpa [fresher] using hr
    rw [this]
    show a.fresh < cur.fresh + 1
    omega

/-- the power cut -/
theorem Inv.cut (h : Inv B hs w disk cur) : ∃ bs, (∀ r, disk[disk.length - 1]? = some r → r.i + 1 = bs + disk.length) ∧ 0 < disk.length ∧ Inv B [⟨disk, disk.length, bs, none, cur.fresh⟩] 0 disk ⟨disk, disk.length, bs, none, cur.fresh⟩ := by
  obtain ⟨d, hd, rfl⟩ := h.disk
  have hk := h.ok d (List.mem_of_getElem? hd)
  obtain ⟨g1, g2, _⟩ := h.agree w d hd
  have hn : StOk B ⟨d.now, d.now.length, d.bs, none, cur.fresh⟩ := by
    refine ⟨hk.ne, fun k r hr => ?_, hk.ne, Nat.le_refl _, hk.bs0, hk.last, fun s hs => nomatch hs⟩
    have := hk.rows k r hr
    show r.i = d.bs + (k : Int) ∧ 1 ≤ r.t ∧ r.t ≤ cur.fresh
    omega
  refine ⟨d.bs, fun r hr => ?_, hk.ne, hn, fun a ha => ?_, h.fr, ⟨_, rfl, rfl⟩, fun k a ha => ?_, fun j k a b hjk ha hb => ?_⟩
  · have := (hk.rows _ r hr).1
    have := hk.ne
    omega
  · rw [List.mem_singleton.mp ha]; exact hn
  · cases k with
    | zero => cases ha; exact ⟨Int.le_refl _, Int.le_refl _, _, Agree.self hn, fun _ => .inl (Nat.le_refl _)⟩
    | succ k => cases ha
  · cases k with
    | zero => omega
    | succ k => cases hb

/-- the oldest save written down -/
theorem Inv.write {b : St} (h : Inv B hs w disk cur) (hb : hs[w + 1]? = some b) :
    Inv B hs (w + 1) b.now cur ∧
    (∃ d0 : Int, (∃ r, disk[0]? = some r ∧ r.i = d0) ∧ (∀ r, disk[disk.length - 1]? = some r → r.i + 1 = d0 + disk.length) ∧ 0 < disk.length ∧ 0 < b.now.length ∧ b.told ≤ b.now.length ∧ disk.length < 3 + B ∧
      (b.snap ≠ none ∧ d0 < b.bs → b.told = 1) ∧ (¬ (b.snap ≠ none ∧ d0 < b.bs) → b.bs = d0 ∧ b.told ≤ disk.length ∧ disk.take b.told = b.now.take b.told ∧ (b.told = b.now.length → disk = b.now))) := by
  obtain ⟨a, ha, rfl⟩ := h.disk
  obtain ⟨h1, h2, m, h3, h4⟩ := h.pair w (w + 1) a b (by omega) ha hb
  have ka := h.ok a (List.mem_of_getElem? ha)
  have kb := h.ok b (List.mem_of_getElem? hb)
  have h4 := h4 rfl
  have nb := kb.ne
  have tb := kb.told1
  have tb2 := kb.told2
  have la := ka.last
  have ba := ka.bs0
  refine ⟨⟨h.here, h.ok, h.fr, ⟨b, hb, rfl⟩, fun k c hc => ?_, h.pair⟩, a.bs, ka.at0, fun r hr => ?_, ka.ne, nb, tb2, by omega, ?_, ?_⟩
  · obtain ⟨g1, g2, n, g3, g4⟩ := h.agree k c hc
    exact ⟨g1, g2, n, g3, fun hk => g4 (by omega)⟩
  · have := (ka.rows _ r hr).1
    have := ka.ne
    omega
  · rintro ⟨e1, e2⟩
    rcases h4 with h5 | ⟨_, h5⟩
    · have := h3.pos (by omega)
      omega
    · exact h5
  · intro e
    have hm : 0 < m ∧ b.told ≤ m := by
      rcases h4 with h5 | ⟨h5, h6⟩
      · omega
      · have : ¬ a.bs < b.bs := fun x => e ⟨h5, x⟩
        have : 0 < m := by
          rcases Nat.eq_zero_or_pos m with h7 | h7
          · exact absurd (h3.zero h7) this
          · exact h7
        omega
    have m1 := h3.m1
    have m2 := h3.m2
    refine ⟨(h3.pos hm.1).symm, by omega, (h3.head hm.2).symm, fun e' => ?_⟩
    rcases h3.all with h7 | h7
    · have := h3.same
      rw [show m = b.now.length by omega, List.take_length] at this
      rw [this, List.take_of_length_le (by omega)]
    · omega

/-- a written save told as stored: its row -/
theorem Inv.told {j p : Nat} {a : St} {r : Rw} (h : Inv B hs w disk cur) (hj : hs[j]? = some a) (hw : j ≤ w) (hp : a.now[p]? = some r) (hr : r ∈ cur.now.drop cur.told) :
    Inv B hs w disk { cur with told := p + 1 } ∧ r.i = cur.bs + p ∧ p < cur.now.length ∧ cur.told ≤ p := by
  obtain ⟨h1, h2, m, h3, h4⟩ := h.agree j a hj
  have ka := h.ok a (List.mem_of_getElem? hj)
  have hq := h.here
  obtain ⟨q, hq1⟩ := List.getElem?_of_mem hr
  rw [List.getElem?_drop] at hq1
  have e1 := ka.rows p r hp
  have e2 := hq.rows _ r hq1
  have hql := (List.getElem?_eq_some_iff.mp hq1).1
  have l1 : cur.told + q < m := h3.old hq1 e1.2.2
  have eb := h3.pos (by omega)
  have e3 : p = cur.told + q := by omega
  subst e3
  have hq' := hq.told2
  refine ⟨⟨⟨hq.ne, hq.rows, Nat.le_add_left _ _, ?_, hq.bs0, hq.last, hq.snap⟩, h.ok, h.fr, h.disk, fun k c hc => ?_, h.pair⟩, by omega, hql, by omega⟩
  · show cur.told + q + 1 ≤ cur.now.length
    omega
  · obtain ⟨g1, g2, n, g3, g4⟩ := h.agree k c hc
    refine ⟨g1, g2, n, g3, fun hk => .inl ?_⟩
    show cur.told + q + 1 ≤ n
    have : a.fresh ≤ c.fresh := by
      rcases Nat.lt_or_ge j k with h5 | h5
      · exact (h.pair j k a c h5 hj hc).1
      · have : j = k := by omega
        subst this
        rw [hj] at hc
        cases hc
        exact Int.le_refl _
    exact g3.old hq1 (by omega)

/-- what the log says of a written save's row -/
theorem Inv.found {j p : Nat} {a : St} {r q : Rw} (h : Inv B hs w disk cur) (hj : hs[j]? = some a) (hp : a.now[p]? = some r) {k : Nat} (hk : cur.now[k]? = some q) (hi : q.i = r.i) (ht : q.t = r.t) : q = r := by
  obtain ⟨h1, h2, m, h3, h4⟩ := h.agree j a hj
  have ka := h.ok a (List.mem_of_getElem? hj)
  have hq := h.here
  have e1 := ka.rows p r hp
  have e2 := hq.rows _ q hk
  have l1 : k < m := h3.old hk (by omega)
  have eb := h3.pos (by omega)
  have : k = p := by omega
  subst this
  have := h3.at l1
  rw [hk, hp] at this
  exact Option.some.inj this

/-- the snapshot's own telling -/
theorem Inv.unsnap {j : Nat} {a : St} {x y : Sn} (h : Inv B hs w disk cur) (hj : hs[j]? = some a) (hw : j ≤ w) (ha : a.snap = some x) (hc : cur.snap = some y) (e : y.i = x.i) : Inv B hs w disk { cur with snap := none } := by
  have hq := h.here
  have ka := h.ok a (List.mem_of_getElem? hj)
  refine ⟨⟨hq.ne, hq.rows, hq.told1, hq.told2, hq.bs0, hq.last, fun s hs => nomatch hs⟩, h.ok, h.fr, h.disk, fun k c hc' => ?_, h.pair⟩
  obtain ⟨g1, g2, n, g3, g4⟩ := h.agree k c hc'
  refine ⟨g1, g2, n, g3, fun hk => .inl ?_⟩
  rcases g4 hk with h5 | ⟨h5, h6⟩
  · exact h5
  · show cur.told ≤ n
    have b1 := (ka.snap x ha).1
    have b2 := (hq.snap y hc).1
    have : a.bs ≤ c.bs := by
      rcases Nat.lt_or_ge j k with h7 | h7
      · exact (h.pair j k a c h7 hj hc').2.1
      · have : j = k := by omega
        subst this
        rw [hj] at hc'
        cases hc'
        exact Int.le_refl _
    rcases Nat.eq_zero_or_pos n with h8 | h8
    · have := g3.zero h8
      omega
    · omega
end

end
section
section
variable {M : Model} {A : Around} {s s₀ : Shared} {env : Env} {Q : Flow → Shared → Prop} {E : Value → Shared → Prop} {h₀ : Heap} {L : Addr} {P : (Str → Option Value) → Led → Prop}
/-- the rest of a body, run from a frame and a ledger that P holds of -/
def Cut (M : Model) (A : Around) (rest : List Stmt) (env : Env) (Q : Flow → Shared → Prop) (E : Value → Shared → Prop) (h₀ : Heap) (L : Addr) (P : (Str → Option Value) → Led → Prop) (s : Shared) : Prop :=
  ∀ h tk m news, P m news → Fr h₀ L h m → News h₀ L h news → wpAny M A (execs rest env) Q E { s with heap := h, toks := tk }
theorem cut1 {a : Stmt} {rest : List Stmt} (h : ∀ R Q, Cut M A R env Q E h₀ L P s → wpAny M A (execs (a :: R) env) Q E s₀) (key : Cut M A rest env Q E h₀ L P s) : wpAny M A (execs (a :: rest) env) Q E s₀ := h rest Q key
theorem cut2 {a b : Stmt} {rest : List Stmt} (h : ∀ R Q, Cut M A R env Q E h₀ L P s → wpAny M A (execs (a :: b :: R) env) Q E s₀) (key : Cut M A rest env Q E h₀ L P s) : wpAny M A (execs (a :: b :: rest) env) Q E s₀ := h rest Q key
theorem cut4 {a b c d : Stmt} {rest : List Stmt} (h : ∀ R Q, Cut M A R env Q E h₀ L P s → wpAny M A (execs (a :: b :: c :: d :: R) env) Q E s₀) (key : Cut M A rest env Q E h₀ L P s) : wpAny M A (execs (a :: b :: c :: d :: rest) env) Q E s₀ := h rest Q key
theorem cut5 {a b c d e : Stmt} {rest : List Stmt} (h : ∀ R Q, Cut M A R env Q E h₀ L P s → wpAny M A (execs (a :: b :: c :: d :: e :: R) env) Q E s₀) (key : Cut M A rest env Q E h₀ L P s) : wpAny M A (execs (a :: b :: c :: d :: e :: rest) env) Q E s₀ := h rest Q key
end
/-- the names that _law_tells keeps -/
structure TellsM (lg nl dl D : Addr) (told bs off last y : Int) (snv : Value) (m : Str → Option Value) : Prop where
  log : m (Str.ofString "log") = some (.ref lg)
  now : m (Str.ofString "now") = some (.ref nl)
  told : ∃ t, m (Str.ofString "told") = some (.int told t)
  snap : m (Str.ofString "snap") = some snv
  disk : m (Str.ofString "disk") = some (.ref dl)
  y : ∃ t, m (Str.ofString "y") = some (.int y t)
  base : ∃ t, m (Str.ofString "base") = some (.int bs t)
  last : ∃ t, m (Str.ofString "last") = some (.int last t)
  offset : ∃ t, m (Str.ofString "offset") = some (.int off t)
  waits : m (Str.ofString "waits") = some (.ref D)
theorem opt_int {a b : Int} {t : Tok} (h : a = b) : some (Value.int a t) = some (Value.int b t) := by rw [h]
def tellsVars : List Str := [Str.ofString "i", Str.ofString "want", Str.ofString "lo", Str.ofString "hi", Str.ofString "some", Str.ofString "got"]
theorem tellsVars_ne {z : Str} (h : tellsVars.contains z = false) : z ≠ Str.ofString "i" ∧ z ≠ Str.ofString "want" ∧ z ≠ Str.ofString "lo" ∧ z ≠ Str.ofString "hi" ∧ z ≠ Str.ofString "some" ∧ z ≠ Str.ofString "got" := by
  simp only [tellsVars, List.contains_cons, List.contains_nil, Bool.or_false, Bool.or_eq_false_iff, beq_eq_false_iff_ne] at h
  exact h
theorem TellsM.keep {lg nl dl D : Addr} {told bs off last y : Int} {snv : Value} {m m' : Str → Option Value} (h : TellsM lg nl dl D told bs off last y snv m) (k : ∀ z, tellsVars.contains z = false → m' z = m z) : TellsM lg nl dl D told bs off last y snv m' := by
  obtain ⟨e1, e2, e3, e4, e5, e6, e7, e8, e9, e10⟩ := h
  refine ⟨?_, ?_, ?_, ?_, ?_, ?_, ?_, ?_, ?_, ?_⟩ <;> (rw [k _ (by decide)]; assumption)
theorem last_app (y : Value) : ∀ p : List Value, kl_last (p ++ [y]) = some (p, y) := kpa_last y
theorem led_pop {prog : Program} {w : World} {A : Around} {E : Value → Shared → Prop} {s : Shared} {h₀ : Heap} {L D : Addr} {m : Str → Option Value} {rest : Led} {p : List Value} {y : Value} {n : Nat} {Q : Value → Shared → Prop}
    (F : Fr h₀ L s.heap m) (N : News h₀ L s.heap ((D, listOf (p ++ [y]).toArray n) :: rest)) (hne : ∀ q ∈ rest, q.1 ≠ D) (hz : p.length < 1000)
    (h : ∀ h', Fr h₀ L h' m → News h₀ L h' ((D, listOf p.toArray (n + 1)) :: rest) → Q y { s with heap := h' }) : wpAny (model prog w) A (call (.builtin "list.pop") [.ref D]) Q E s :=
  kl_pop F N (by rw [List.toList_toArray]; exact kpa_last y p) (.head hne) (by rw [List.toList_toArray, List.length_append, List.length_singleton, PySem.sizeLine_eq]; omega) h
theorem nil_or_app (us : List Value) : us = [] ∨ ∃ p y, us = p ++ [y] := by
  rcases List.eq_nil_or_concat us with h | ⟨p, y, h⟩
  · exact .inl h
  · exact .inr ⟨p, y, by rw [h, List.concat_eq_append]⟩
theorem and_keep {a b : Prop} (h : a) (k : a → b) : a ∧ b := ⟨h, k h⟩
section
variable {M : Model} {A : Around} {s s₀ : Shared} {env : Env} {Q : Flow → Shared → Prop} {E : Value → Shared → Prop} {L : Addr} {G : Heap → Prop} {P : (Str → Option Value) → Led → Prop}
/-- the same, where the ground may have turned -/
def CutG (M : Model) (A : Around) (rest : List Stmt) (env : Env) (Q : Flow → Shared → Prop) (E : Value → Shared → Prop) (G : Heap → Prop) (L : Addr) (P : (Str → Option Value) → Led → Prop) (s : Shared) : Prop :=
  ∀ g h tk m news, G g → P m news → Fr g L h m → News g L h news → wpAny M A (execs rest env) Q E { s with heap := h, toks := tk }
theorem cutg4 {a b c d : Stmt} {rest : List Stmt} (h : ∀ R Q, CutG M A R env Q E G L P s → wpAny M A (execs (a :: b :: c :: d :: R) env) Q E s₀) (key : CutG M A rest env Q E G L P s) : wpAny M A (execs (a :: b :: c :: d :: rest) env) Q E s₀ := h rest Q key
theorem cutg2 {a b : Stmt} {rest : List Stmt} (h : ∀ R Q, CutG M A R env Q E G L P s → wpAny M A (execs (a :: b :: R) env) Q E s₀) (key : CutG M A rest env Q E G L P s) : wpAny M A (execs (a :: b :: rest) env) Q E s₀ := h rest Q key
theorem cutg1 {a : Stmt} {rest : List Stmt} (h : ∀ R Q, CutG M A R env Q E G L P s → wpAny M A (execs (a :: R) env) Q E s₀) (key : CutG M A rest env Q E G L P s) : wpAny M A (execs (a :: rest) env) Q E s₀ := h rest Q key
end
/-- a call out of the law's own frame that changes nothing that stood -/
def Ro0 (k : Nat) (w : World) (p : Program) (loose : List Str) (mean : ExcName → Option Value) (mg mb : Str → Option Value) (f : Addr) (vs : List Value)
    (Pre : Led → Prop) (Out : Led → Led → Value → Prop) : Prop :=
  ∀ (dp un : Nat) (gd : Option (List Code)) (cn : Str) (cs : Scope) (a : Addr) (ccd : Value) (cl : List (Str × Addr)) (A₀ : Around) (base h₀ : Heap) (L : Addr) (m : Str → Option Value) (news : Led) (s : Shared)
    (Q E : Value → Shared → Prop),
    Below A₀ base [] h₀ → Fr h₀ L s.heap m → (hd.heap_1 w.params).In h₀ → News h₀ L s.heap news → Top p loose mean mg mb h₀ → cs.kind = .function → (hd.heap_1 w.params).In base → Top p loose mean mg mb base → Pre news → dp + k < recursionLimit → un + 40 * k < cLine →
    (∀ r tl h' tk', Fr h₀ L h' m → News h₀ L h' (news ++ tl) → (∀ q ∈ news, ∀ p ∈ tl, p.1 ≠ q.1) → Out news tl r → Q r { s with heap := h', toks := tk' }) →
    wpAny (model PySem.Challenge.rw_no0401_01.row.prog w) (ktrTop dp un gd cn cs L a ccd cl []) (call (.ref f) vs) Q E s
section
variable {k : Nat} {w : World} {p : Program} {loose : List Str} {mean : ExcName → Option Value} {mg mb : Str → Option Value} {f : Addr} {vs : List Value} {Pre : Led → Prop}
    {dp un : Nat} {gd : Option (List Code)} {cn : Str} {cs : Scope} {a : Addr} {ccd : Value} {cl : List (Str × Addr)} {A₀ : Around} {base h₀ : Heap} {L : Addr} {m : Str → Option Value} {news : Led} {s : Shared} {Q E : Value → Shared → Prop}
theorem ro0_use {Out : Led → Led → Value → Prop} (C : Ro0 k w p loose mean mg mb f vs Pre Out) (B : Below A₀ base [] h₀) (F : Fr h₀ L s.heap m) (X : (hd.heap_1 w.params).In h₀) (N : News h₀ L s.heap news) (T : Top p loose mean mg mb h₀) (hk : cs.kind = .function) (XB : (hd.heap_1 w.params).In base) (TB : Top p loose mean mg mb base) (hp : Pre news) (hd : dp + k < recursionLimit) (hu : un + 40 * k < cLine)
    (ret : ∀ r tl h' tk', Fr h₀ L h' m → News h₀ L h' (news ++ tl) → (∀ q ∈ news, ∀ p ∈ tl, p.1 ≠ q.1) → Out news tl r → Q r { s with heap := h', toks := tk' }) :
    wpAny (model PySem.Challenge.rw_no0401_01.row.prog w) (ktrTop dp un gd cn cs L a ccd cl []) (call (.ref f) vs) Q E s := C _ _ _ _ _ _ _ _ _ _ _ _ _ _ _ _ _ B F X N T hk XB TB hp hd hu ret
end
theorem snap_shape {news : Led} {v : Value} {x : Sn} (h : DatIn news v (snapDat x)) : ∃ a cfv n ta tb tc, v = .ref a ∧ (a, ({ cls := .type "tuple", data := .seq [Value.int x.i ta, .int x.t tb, cfv, .bytes x.d tc].toArray n } : Obj)) ∈ news := by
  obtain ⟨a, vs, n, rfl, hm, ha⟩ := tupLit h
  obtain ⟨u1, us, rfl, h1, ha⟩ := datAll_cons ha
  obtain ⟨u2, us, rfl, h2, ha⟩ := datAll_cons ha
  obtain ⟨u3, us, rfl, h3, ha⟩ := datAll_cons ha
  obtain ⟨u4, us, rfl, h4, ha⟩ := datAll_cons ha
  obtain rfl := datAll_nil ha
  obtain ⟨t1, rfl⟩ := datIn_int h1
  obtain ⟨t2, rfl⟩ := datIn_int h2
  obtain ⟨t4, rfl⟩ := datIn_bytes h4
  exact ⟨a, u3, n, t1, t2, t4, rfl, hm⟩
theorem datAll_app {news : Led} : ∀ {vs us : List Value} {rs qs : List Rw}, DatAll news vs (rs.map Rw.dat) → DatAll news us (qs.map Rw.dat) → DatAll news (vs ++ us) ((rs ++ qs).map Rw.dat)
  | [], us, rs, qs, h, h' => by
    cases rs with
    | nil => exact h'
    | cons r rs => cases h
  | v :: vs, us, rs, qs, h, h' => by
    cases rs with
    | nil => cases h
    | cons r rs => cases h with | cons a b => exact .cons a (datAll_app b h')
section
variable {prog : Program} {w : World} {A₀ A : Around} {s : Shared} {base h₀ : Heap} {L : Addr} {m : Str → Option Value} {env : Env} {news : Led} {K : Frag} {p : Program} {loose : List Str} {mean : ExcName → Option Value} {mg mb : Str → Option Value}
    {R : Result → Shared → Prop} {name qual : Str} {params : Arguments} {body : List Stmt} {scope : Scope} {dV kV doc pm cdv ct oc : Value} {an od : Option Addr} {osl : Array (Option Value)} {f : Addr} {args : Args} {binds : List (Str × Value)}
/-- a def called from the law's own frame (a frame with cells), in which an exception may be caught -/
theorem code_tries (B : Below A₀ base [] h₀) (F : Fr h₀ L s.heap m) (X₀ : K.In h₀) (N : News h₀ L s.heap news) (T : Top p loose mean mg mb h₀) (hA : A.frames = some [env]) (hf : env.frame = some L) (hke : env.scope.kind = .function)
    (ho : K.lookup f = some ⟨oc, od, .func (fnOf name qual params body scope dV kV doc pm an cdv ct), osl⟩) (hcd : codeIn K cdv qual = true) (hroom : A.depth < recursionLimit)
    (hbind : BindsTo s (fnOf name qual params body scope dV kV doc pm an cdv ct) args binds) (hloc : ∀ y ∈ binds, scope.names.lookup y.1 = some .local)
    (h : ∀ g L' h₁, Fr h₀ L g m → Fr g L' h₁ (fun y => binds.reverse.lookup y) → News g L' h₁ news → Below A base [env] g → K.In g → Top p loose mean mg mb g → KtsDicts ([env].filterMap (·.frame)) g →
      wpAny (model prog w) (A.deeper (envOf qual scope L' f cdv)) (execs body (envOf qual scope L' f cdv))
        (fun fl s' => LeaveS0 ([env].filterMap (·.frame)) h₀ L m g R (match fl with | .ret v => v | _ => .none) s')
        (fun e s' => wpAny (model prog w) (A.deeper (envOf qual scope L' f cdv)) (leaving (envOf qual scope L' f cdv) e) (fun _ s'' => R (.error e) s'') (fun e' s'' => R (.error e') s'') s')
        { s with heap := h₁, toks := s.toks + binds.length })
    (hco : scope.isCoroutine = false) (hgen : scope.isGenerator = false) (hk : scope.kind = .function)
    (hcell : ∀ x ∈ scope.names, x.2 ≠ .cell) : codeAny (model prog w) A (.call (.ref f) args) R s := by
  have X := X₀.keeps F.keep
  obtain ⟨FG, BG, st, _⟩ := groundX (R := R) B F N hA hf hke
  have hfs : [env].filterMap (·.frame) = [L] := by simp [hf]
  obtain ⟨oL, es, ep, hLg, hLd, hLk, hLf⟩ := FG.ns
  refine codeAny_call_def (fd := fnOf name qual params body scope dV kV doc pm an cdv ct) (body := body) (binds := binds) hroom (X _ _ ho) rfl (T.nolimit.keeps F.keep) (codeRec_of X hcd) rfl hbind hcell hloc (fun h₁ hns hk₁ => ?_) hco hgen hk
  refine wpAny_mono (h _ s.heap.objs.size h₁ FG ⟨hns, fun b o e => hk₁ b o (of_hideAll _ e), Nat.le_of_eq (hideAll_size _ _)⟩
    (fun p hp => ⟨hk₁ _ _ (N p hp).1, Nat.ne_of_lt (Heap.lt_size (N p hp).1), hideAll_none _ (List.mem_map_of_mem hp)⟩) BG (X₀.keeps st) (T.keeps st) (fun b hb => by
      rw [hfs] at hb
      rw [List.mem_singleton.mp hb]
      exact ⟨oL, es, ep, hLg, hLd⟩)) (fun fl s' hl => ?_) fun _ _ y => y
  obtain ⟨g', L', m', news', T', F', N', k⟩ := hl
  have nL₀ : h₀.get? L = none := kts_self F
  obtain ⟨sl, hs⟩ := T'.up hLg
  refine k ⟨⟨_, es, ep, F'.keep _ _ hs, hLd, hLk, hLf⟩, fun b o e => F'.keep b o (T'.other b o (st b o e) (fun q => by
    rw [hfs] at q
    rw [List.mem_singleton.mp q, nL₀] at e
    cases e)), F.above⟩ fun p hp => ⟨(N' p hp).1, fun q => ?_, ?_⟩
  · have := (N' p hp).2.2; rw [q, hs] at this; cases this
  · cases q : h₀.get? p.1 with
    | none => rfl
    | some o =>
      obtain ⟨sl', hs'⟩ := T'.up (st _ _ q)
      have := (N' p hp).2.2
      rw [hs'] at this
      cases this
end

end
local macro_rules | `(tactic| walk_at "look") => `(tactic| first | assumption | ((try dsimp only); first | exact if_pos rfl | (refine look_skip (by decide) ?_; walk_at "look") | (refine (if_neg (by decide)).trans ?_; walk_at "look")))
local macro_rules | `(tactic| walk_at "dat_mk") => `(tactic| first | (refine datIn_int' ?di9; (case di9 => omega)) | exact DatIn.none | exact DatIn.bytes _ _ | exact datIn_up (by assumption) (by walk_at "p9") | (refine' DatIn.tuple ?dm9 ?da9; (case dm9 => first | walk_at "mem8" | k_mem); (case da9 => walk_at "dat_all")) | (refine' DatIn.list ?dm9 ?da9; (case dm9 => first | walk_at "mem8" | k_mem); (case da9 => walk_at "dat_all")))
local macro_rules | `(tactic| walk_at "al2") => `(tactic| (intro D' h' F' N' l1; (first | rw [pick_all] at N' | rw [pick_from (by omega)] at N' | rw [pick_upto (by omega)] at N' | rw [pick_run (by omega) (by omega)] at N' | skip); (try k_lt l1); (try k_sweep)))

section
theorem reg_G_tells : True := by
  k_with_none
  k_with "som" => ((try simp only [List.length_append, List.length_take, List.length_drop, List.length_cons, List.length_nil]); omega)
  k_with "mem9" => first | with_reducible exact List.mem_cons_self | (with_reducible refine List.mem_cons_of_mem _ ?_; walk_at "mem9") | (with_reducible refine List.mem_append_left _ ?_; walk_at "mem9") | (with_reducible refine List.mem_append_right _ ?_; walk_at "mem9") | with_reducible assumption
  k_with "q9" => first | with_reducible exact sub_refl | (with_reducible refine sub_tail ?_; walk_at "q9") | (with_reducible refine sub_left ?_; walk_at "q9") | (with_reducible refine sub_right ?_; walk_at "q9") | with_reducible assumption
  k_with "p9" => first | with_reducible exact sub_nil | (with_reducible refine sub_cons ?_ ?_; walk_at "mem9"; walk_at "p9") | (with_reducible refine sub_app ?_ ?_; walk_at "p9"; walk_at "p9") | walk_at "q9"
  k_with "L call builtin:len" => (k_here; (with_reducible show wpAny _ _ (call (Value.builtin "len") [Value.ref _]) _ _ _); k_dflt (refine led_len (by k_asm) (by k_mem) (by walk_at "som") ?_; k_whole))
  k_with "L subscriptTail" => ((k_here; (with_reducible show wpAny _ _ (subscriptTail _ _ (Value.ref _) (Value.int _ _)) _ _ _); k_dflt (refine led_item (by k_asm) (by k_mem) (by omega) (by walk_at "som") (by walk_at "som") (by with_unfolding_all rfl) ?_; k_whole)); first | walk_at "it" | (intro _ _))
  k_with "L subscriptTail" => ((k_here; (with_reducible show wpAny _ _ (subscriptTail _ (PySem.Expr.Slice _ _ none _) (Value.ref _) (Value.ref _)) _ _ _); k_dflt (refine led_slice (by k_asm) (by k_asm) (by k_mem) (by kmk_part) (by kmk_part) (by walk_at "som") (by with_unfolding_all rfl) (by kmk_pure) ?_; k_whole)); walk_at "al")
  k_with "L binaryOp Add" => ((k_here; (with_reducible show wpAny _ _ (binaryOp _ (Value.ref _) (Value.ref _)) _ _ _); k_dflt (refine led_add (by k_asm) (by k_asm) (by k_mem) (by k_mem) (by walk_at "som") (by walk_at "som") ?_; k_whole)); walk_at "al")
  k_with "L binaryOp Add ref ref" => ((k_here; (with_reducible show wpAny _ _ (binaryOp _ (Value.ref _) (Value.ref _)) _ _ _); k_dflt (refine led_add (by k_asm) (by k_asm) (by k_mem) (by k_mem) (by walk_at "som") (by walk_at "som") ?_; k_whole)); walk_at "al")
  k_with "L call builtin:list.append" => ((with_reducible show wpAny _ _ (call (Value.builtin _) ([_] ++ _)) _ _ _); dsimp only [List.cons_append, List.nil_append])
  k_with "L call type:tuple" => ((k_here; (with_reducible show wpAny _ _ (call (Value.type "tuple") [Value.ref _]) _ _ _); k_dflt (refine kde_tupleOf (by k_asm) (by k_asm) (by exact led_isList (by assumption) (by k_mem)) (by (simp only [List.size_toArray, List.length_drop, List.length_take]; omega)) (by exact List.toList_toArray ..) ?_)); intro _ _ _ _ _; (try k_fold))
  k_with "p9" => first | with_reducible exact sub_nil | (with_reducible refine sub_cons ?_ ?_; walk_at "mem9"; walk_at "p9") | (with_reducible refine sub_app ?_ ?_; walk_at "p9"; walk_at "p9") | walk_at "q9" | (intro p9 h9; first | exact h9 | (simp only [List.mem_append, List.mem_cons, h9, true_or, or_true]; done) | (simp only [List.mem_append, List.mem_cons, List.not_mem_nil, or_false, false_or] at h9 ⊢; grind))
  k_with "L subscriptTail" => ((k_here; (with_reducible show wpAny _ _ (subscriptTail _ _ (Value.ref _) (Value.int _ _)) _ _ _); k_dflt (first | (refine led_item (by k_asm) (by k_mem) (by omega) (by walk_at "som") (by walk_at "som") (by with_unfolding_all rfl) ?_; k_whole) | (refine led_item_neg (by k_asm) (by k_mem) (by omega) (by walk_at "som") (by walk_at "som") (by with_unfolding_all rfl) ?_; k_whole))); walk_at "it")
  k_with "L subscriptTail Name Slice ref ref" => ((k_here; (with_reducible show wpAny _ _ (subscriptTail _ (PySem.Expr.Slice _ _ none _) (Value.ref _) (Value.ref _)) _ _ _); k_dflt (refine led_slice (by k_asm) (by k_asm) (by k_mem) (by kmk_part) (by kmk_part) (by walk_at "som") (by with_unfolding_all rfl) (by kmk_pure) ?_; k_whole)); walk_at "al2")
  k_with "dat_all" => first | exact DatAll.nil | exact datAll_up (by assumption) (by walk_at "p9") | (refine DatAll.cons ?_ ?_; walk_at "dat_mk"; walk_at "dat_all")
  k_with "L compareOp NotEq ref ref" => (k_here; (with_reducible show wpAny _ _ (compareOp _ (Value.ref _) (Value.ref _)) _ _ _); k_dflt (refine dat_ne (n := 5) (by k_asm) (by walk_at "dat_x") (by walk_at "dat_mk") (by first | with_reducible exact datOk_rows5 _ | with_reducible exact datOk_log | exact datOk_log | exact datOk_rows5 _) (by ktr_units) ?_))
  k_with "dat_x" => first | exact datIn_up (by assumption) (by walk_at "p9") | exact DatIn.list (by k_mem) (datAll_up (by assumption) (by walk_at "p9"))
  k_with "L call ref" => ((k_here; (with_reducible show wpAny _ _ (call (Value.ref 100) _) _ _ _); k_dflt (refine rd_use c_stable_no (by k_asm) (by k_asm) (by k_asm) (by k_asm) (by k_asm) (by first | exact rfl | assumption) (by exact ⟨⟨_, _, _, _, _, _, _, by k_mem, by k_mem⟩, by k_mem, EntAll.up (by assumption) (by walk_at "p9"), SnapIn.up (by assumption) (by walk_at "p9"), by omega, by omega, by omega, by omega, by omega, term_no (by omega) (by assumption)⟩) (by ktr_room) (by ktr_units) ?_)); rintro _ _ _ _ _ _ - ⟨rfl, rfl⟩; walk_at "nz")
  k_with "L call ref" => ((k_here; (with_reducible show wpAny _ _ (call (Value.ref 107) _) _ _ _); k_dflt (refine rd_use c_snapto_no (by k_asm) (by k_asm) (by k_asm) (by k_asm) (by k_asm) (by first | exact rfl | assumption) (by exact ⟨⟨_, _, _, _, _, _, _, by k_mem, by k_mem⟩, SnapIn.up (by assumption) (by walk_at "p9"), by omega, by omega, SnI.no (by assumption) (by omega)⟩) (by ktr_room) (by ktr_units) ?_)); rintro _ _ _ _ _ _ - ⟨rfl, rfl⟩; walk_at "nz")
  k_with "L call ref" => ((k_here; (with_reducible show wpAny _ _ (call (Value.ref 135) _) _ _ _); k_dflt (refine rd_use c_row (by k_asm) (by k_asm) (by k_asm) (by k_asm) (by k_asm) (by first | exact rfl | assumption) (by exact ⟨⟨_, _, _, _, _, _, _, by k_mem, by k_mem⟩, by k_mem, EntAll.up (by assumption) (by walk_at "p9"), SnapIn.up (by assumption) (by walk_at "p9"), by omega, by assumption⟩) (by ktr_room) (by ktr_units) ?_)); rintro _ _ _ _ _ _ _ ho9; obtain ⟨_, _, _, rfl, _, _⟩ := tupLit ho9; walk_at "nz")
  k_with "L call ref" => ((k_here; (with_reducible show wpAny _ _ (call (Value.ref 93) _) _ _ _); k_dflt (refine rd_use c_term (by k_asm) (by k_asm) (by k_asm) (by k_asm) (by k_asm) (by first | exact rfl | assumption) (by exact ⟨⟨_, _, _, _, _, _, _, by k_mem, by k_mem⟩, by k_mem, EntAll.up (by assumption) (by walk_at "p9"), SnapIn.up (by assumption) (by walk_at "p9"), by omega, by omega, by omega, by omega, by omega⟩) (by ktr_room) (by ktr_units) ?_)); rintro _ _ _ _ _ _ - ⟨rfl, ho9⟩; walk_at "nz"; (rcases isOpt_cases ho9 with ⟨rfl, _⟩ | ⟨_, _, rfl, _⟩))
  k_with "testChain" => k_dflt (refine test_link ?_)
  k_with "termno" => first | exact term_bad2 (by assumption) (by assumption) (by assumption) (by assumption) (by walk_at "termyes") | exact term_bad1 (by assumption) (by assumption) (by assumption) (by walk_at "termyes") | exact term_bad3 (by assumption) (by assumption) (fun c8 => by (have h1 := c8.1; have h2 := c8.2; omega)) (fun c8 => by (first | (have h2 := c8.2; omega) | exact c8.1 rfl))
  k_with "L call ref" => ((k_here; (with_reducible show wpAny _ _ (call (Value.ref 128) _) _ _ _); k_dflt (refine rd_use c_part (by k_asm) (by k_asm) (by k_asm) (by k_asm) (by k_asm) (by first | exact rfl | assumption) (by exact ⟨⟨_, _, _, _, _, _, _, by k_mem, by k_mem⟩, by k_mem, by omega, by omega, by omega, by omega, by omega, by omega⟩) (by ktr_room) (by ktr_units) ?_)); rintro _ _ _ _ _ _ _ ⟨_, rfl, _⟩; walk_at "nz")
  k_with "L call ref" => ((k_here; (with_reducible show wpAny _ _ (call (Value.ref 287) _) _ _ _); k_dflt (refine ro_use c_rows (by k_asm) (by k_asm) (by k_asm) (by k_asm) (by k_asm) (by first | exact rfl | assumption) (by exact ⟨by k_mem, EntAll.up (by assumption) (by walk_at "p9"), by omega, by assumption⟩) (by ktr_room) (by ktr_units) ?_)); rintro _ _ _ _ _ _ _ ⟨_, _, rfl, _, _⟩; walk_at "nz")
  k_with "L And" => ((with_reducible show PySem.Str.length (_ ++ _) ≤ sizeLine ∧ wpAny _ _ (joinParts _ _) _ _ _); refine and_keep (by size_fits) (fun hSz9 => ?_))
  k_with "L call ref" => ((k_here; (with_reducible show wpAny _ _ (call (Value.ref 79) _) _ _ _); k_dflt (refine rd_use c_first (by k_asm) (by k_asm) (by k_asm) (by k_asm) (by k_asm) (by first | exact rfl | assumption) (by exact ⟨⟨_, _, _, _, _, _, _, by k_mem, by k_mem⟩, SnapIn.up (by assumption) (by walk_at "p9"), by assumption⟩) (by ktr_room) (by ktr_units) ?_)); rintro _ _ _ _ _ _ - ⟨rfl, ho9⟩; walk_at "nz"; (first | (obtain ⟨_, rfl⟩ := ho9) | subst ho9); (try k_fold))
  k_with "L call ref" => ((k_here; (with_reducible show wpAny _ _ (call (Value.ref 86) _) _ _ _); k_dflt (refine rd_use c_last (by k_asm) (by k_asm) (by k_asm) (by k_asm) (by k_asm) (by first | exact rfl | assumption) (by exact ⟨⟨_, _, _, _, _, _, _, by k_mem, by k_mem⟩, by k_mem, EntAll.up (by assumption) (by walk_at "p9"), SnapIn.up (by assumption) (by walk_at "p9"), by omega, by omega, by omega⟩) (by ktr_room) (by ktr_units) ?_)); rintro _ _ _ _ _ _ - ⟨rfl, ho9⟩; walk_at "nz"; split at ho9; all_goals ((first | (obtain ⟨_, rfl⟩ := ho9) | subst ho9); (try k_fold)))
  k_with "termyes" => first | exact .inl ⟨by omega, by omega⟩ | exact .inr ⟨fun h => (nomatch h), by omega⟩
  k_with "L exec While Compare cons nil" => (refine held ?_)
  k_with "L call builtin:list.pop" => (k_here; k_dflt (refine led_pop (by k_asm) (by k_asm) (by assumption) (by omega) ?_); intro _ _ _)
  k_with "L compareOp Eq ref ref" => (refine held ?_)
  k_with "L pyIter ref" => (refine held ?_)
  k_with "endcut" => ((try dsimp only); rename Cut _ _ _ _ _ _ _ _ _ _ => cc; exact cc _ _ _ _ ⟨rfl, rfl⟩ (by assumption) (kst_newsOf (by assumption) (by walk_at "p9")))
  trivial
theorem datOk_rows5 : ∀ (rs : List Rw), datOk 5 (.list (rs.map Rw.dat)) = true := fun rs => by
  simp only [datOk, List.all_map, List.all_eq_true]
  intro r _
  rfl
theorem datOk_rowsT : ∀ (rs : List Rw), datOk 3 (.tuple (rs.map Rw.dat)) = true := fun rs => by
  simp only [datOk, List.all_map, List.all_eq_true]
  intro r _
  rfl
theorem datOk_log {off : Int} {rs : List Rw} {S : Option Sn} : datOk 5 (.tuple [.int off, .tuple (rs.map Rw.dat), optDat S]) = true := by
  have h : datOk 4 (.tuple (rs.map Rw.dat)) = true := by
    simp only [datOk, List.all_map, List.all_eq_true]
    intro r _
    rfl
  have h' : datOk 4 (optDat S) = true := by cases S <;> rfl
  simp only [datOk, List.all_cons, List.all_nil, Bool.and_true, Bool.true_and] at h ⊢
  simp [h, h']
theorem datAll_drop {news : Led} : ∀ {vs : List Value} {rs : List Rw} (k : Nat), DatAll news vs (rs.map Rw.dat) → DatAll news (vs.drop k) ((rs.drop k).map Rw.dat)
  | _, _, 0, h => h
  | [], rs, k + 1, h => by
    cases rs with
    | nil => exact h
    | cons r rs => cases h
  | v :: vs, rs, k + 1, h => by
    cases rs with
    | nil => cases h
    | cons r rs => cases h with | cons _ h => exact datAll_drop k h
theorem datAll_take {news : Led} : ∀ {vs : List Value} {rs : List Rw} (k : Nat), DatAll news vs (rs.map Rw.dat) → DatAll news (vs.take k) ((rs.take k).map Rw.dat)
  | _, _, 0, _ => .nil
  | [], rs, k + 1, h => by
    cases rs with
    | nil => exact .nil
    | cons r rs => cases h
  | v :: vs, rs, k + 1, h => by
    cases rs with
    | nil => cases h
    | cons r rs => cases h with | cons a h => exact .cons a (datAll_take k h)
theorem datIn_int' {news : Led} {i j : Int} {t : Tok} (h : i = j) : DatIn news (.int i t) (.int j) := h ▸ .int i t
theorem term_no {rs : List Rw} {off i ter : Int} {S : Option Sn} (h : i < off ∨ off + rs.length ≤ i ∨ ter ≤ 0) (hp : ∀ r ∈ rs, 1 ≤ r.t) (ho : off ≤ i) : termAt rs off S i ≠ some ter := by
  unfold termAt
  rw [if_neg (by omega)]
  split
  · simp
  · cases e : rs[(i - off).toNat]? with
    | none => simp
    | some r =>
      have := hp r (List.mem_of_getElem? e)
      simp only [Option.map_some, ne_eq, Option.some.injEq]
      omega
theorem tells_term {nw dk rs : List Rw} {told bs off : Int} {S : Option Sn} (h : TellsOk nw dk told bs off S rs) (j : Int) :
    ((off ≤ j ∧ j ≤ bs + nw.length - 1) ∨ (S ≠ none ∧ j = bs) → ∃ r, nw[(j - bs).toNat]? = some r ∧ termAt rs off S j = some r.t) ∧
    (¬ ((off ≤ j ∧ j ≤ bs + nw.length - 1) ∨ (S ≠ none ∧ j = bs)) → termAt rs off S j = none) := by
  obtain ⟨g1, g2, g3, g4, g5, g6, g7, g8, g9, g10, g11, g12⟩ := h
  have lrs : (rs.length : Int) = nw.length - told := by rw [g6, List.length_drop]; omega
  constructor
  · rintro (⟨a, b⟩ | ⟨a, b⟩)
    · have hk : (j - bs).toNat < nw.length := by omega
      refine ⟨_, List.getElem?_eq_getElem hk, ?_⟩
      unfold termAt
      rw [if_neg (by omega), if_neg (by omega), g6, List.getElem?_drop, show told.toNat + (j - off).toNat = (j - bs).toNat by omega, List.getElem?_eq_getElem hk]
      rfl
    · cases S with
      | none => exact absurd rfl a
      | some x =>
        obtain ⟨c, d⟩ := g9 x rfl
        refine ⟨_, by rw [b, Int.sub_self]; exact d, ?_⟩
        unfold termAt
        rw [if_pos (by omega)]
        simp only [if_pos (show x.i = j by omega)]
  · intro n
    have n1 : ¬ (off ≤ j ∧ j ≤ bs + nw.length - 1) := fun x => n (.inl x)
    unfold termAt
    by_cases c : j < off
    · rw [if_pos c]
      cases S with
      | none => rfl
      | some x =>
        obtain ⟨d, _⟩ := g9 x rfl
        have : x.i ≠ j := fun e => n (.inr ⟨by simp, by omega⟩)
        simp only [if_neg this]
    · rw [if_neg c, if_pos (by omega)]
section
variable {nw dk rs : List Rw} {told bs off j x : Int} {S : Option Sn} {r : Rw}
theorem term_bad1 (h : TellsOk nw dk told bs off S rs) (e : termAt rs off S j = none) (hr : nw[(j - bs).toNat]? = some r) (c : (off ≤ j ∧ j ≤ bs + nw.length - 1) ∨ (S ≠ none ∧ j = bs)) : False := by
  obtain ⟨q, _, h2⟩ := (tells_term h j).1 c
  rw [h2] at e
  cases e
theorem term_bad2 (h : TellsOk nw dk told bs off S rs) (e : termAt rs off S j = some x) (hr : nw[(j - bs).toNat]? = some r) (n : x ≠ r.t) (c : (off ≤ j ∧ j ≤ bs + nw.length - 1) ∨ (S ≠ none ∧ j = bs)) : False := by
  obtain ⟨q, h1, h2⟩ := (tells_term h j).1 c
  rw [h2] at e
  rw [hr] at h1
  cases e
  cases h1
  exact n rfl
theorem term_bad3 (h : TellsOk nw dk told bs off S rs) (e : termAt rs off S j = some x) (c : ¬ (off ≤ j ∧ j ≤ bs + nw.length - 1)) (c' : ¬ (S ≠ none ∧ j = bs)) : False := by
  rw [(tells_term h j).2 (fun q => q.elim c c')] at e
  cases e
end
section
variable {w : World} {p : Program} {loose : List Str} {mean : ExcName → Option Value} {mg mb : Str → Option Value}
local macro_rules | `(tactic| walk_at "dat_mk") => `(tactic| first | (refine datIn_int' ?di9; (case di9 => omega)) | exact DatIn.none | exact DatIn.bytes _ _ | exact datIn_up (by assumption) (by walk_at "p9") | (refine' DatIn.tuple ?dm9 ?da9; (case dm9 => k_mem); (case da9 => walk_at "dat_all")) | (refine' DatIn.list ?dm9 ?da9; (case dm9 => k_mem); (case da9 => walk_at "dat_all")))
local macro_rules | `(tactic| walk_at "joinParts") => `(tactic| (k_here; k_dflt (refine' joinParts_nil ?_ ?z; (case z => assumption))))
local macro_rules | `(tactic| walk_at "eval Name") => `(tactic| ((with_reducible show wpAny _ _ (eval (Expr.Name _ _) (envOf _ _ _ _ _)) _ _ _); name_kind "local"; k_dflt (refine' ld ?F ?v ?_; (case F => k_asm); (case v => walk_at "look"))))
set_option maxHeartbeats 16000000 in
theorem c_tells {lg dx el nl dl : Addr} {n n1 n2 : Nat} {vs nvs dvs : List Value} {rs nw dk : List Rw} {sv snv : Value} {off told bs y : Int} {S : Option Sn} {t1 t2 : Tok} (hok : TellsOk nw dk told bs off S rs) :
   Ro0 20 w p loose mean mg mb 294 [.ref lg, .ref nl, .int told t1, snv, .ref dl, .int y t2] (fun news => LogAt news lg dx sv el off ∧ (el, listOf vs.toArray n) ∈ news ∧ EntAll news vs rs ∧ SnapIn news sv S ∧ (nl, listOf nvs.toArray n1) ∈ news ∧ DatAll news nvs (nw.map Rw.dat) ∧
      (dl, listOf dvs.toArray n2) ∈ news ∧ DatAll news dvs (dk.map Rw.dat) ∧ DatIn news snv (optDat S) ∧ 0 ≤ y ∧ y < 300000)
     (fun _ tl r => r = .bool true) := by
  unfold Ro0
  k_fill
  intro dp un gd cn cs a ccd cl A₀ base h₀ L m news s Q E B F X N T hk XB TB hR hd hu hret
  obtain ⟨⟨h1, h2, h3, u1, u2, u3, u4, m1, m2⟩, ml, hv, hS, mn, hn, md, hdk, hsn, y1, y2⟩ := hR
  obtain ⟨g1, g2, g3, g4, g5, g6, g7, g8, g9, g10, g11, g12⟩ := id hok
  have len := hv.length
  have lnn : nvs.length = nw.length := by rw [hn.length, List.length_map]
  have lnd : dvs.length = dk.length := by rw [hdk.length, List.length_map]
  have lrs : (rs.length : Int) = nw.length - told := by rw [g6, List.length_drop]; omega
  have hpos : ∀ r ∈ rs, 1 ≤ r.t := by
    intro r hr
    rw [g6] at hr
    obtain ⟨k, hk⟩ := List.getElem?_of_mem (List.mem_of_mem_drop hr)
    exact (g1 k r hk).2.1
  have hfit : Fits rs := by
    intro r hr
    rw [g6] at hr
    obtain ⟨k, hk⟩ := List.getElem?_of_mem (List.mem_of_mem_drop hr)
    have := g1 k r hk
    have := (List.getElem?_eq_some_iff.mp hk).1
    omega
  have hsni : SnI S bs := fun x hx => (g9 x hx).1
  have hwt : DatAll news (nvs.drop told.toNat) (rs.map Rw.dat) := by rw [g6]; exact datAll_drop _ hn
  have hwl : ((nvs.drop told.toNat).length : Int) = nw.length - told := by rw [List.length_drop]; omega
  have kMk := kstMark
  refine wpAny_call ?_
  k_dflt (refine' code_tries ?k1 ?k2 ?k3 ?k4 ?k5 ?kA ?kF ?kK ?k6 ?k7 ?k8 ?k9 ?kB ?_ ?c2 ?c3 ?c4 ?c5; (case kA => exact rfl); (case kF => exact rfl); (case kK => assumption); (case k1 => k_asm); (case k2 => k_asm); (case k3 => k_asm); (case k4 => k_asm); (case k5 => k_asm); (case k6 => k_is); (case k7 => k_is); (case k8 => ktr_room); (case k9 => exact BindsTo.of_eq rfl); (case kB => exact locs rfl); (case c2 => exact rfl); (case c3 => exact rfl); (case c4 => exact rfl); (case c5 => decide); k_whole)
  intro g' L' hh FG FF NN BB XX TT DD
  (try dsimp only)
  (try k_fold)
  clear N F
  k_dflt (refine cut4 (s := s) (h₀ := g') (L := L') (P := fun m nx => ∃ D, nx = (D, listOf (nvs.drop told.toNat).toArray 0) :: news ∧ TellsM lg nl dl D told bs off (bs + nw.length - 1) y snv m) (fun R Q c => ?_) ?_)
  · try clear hret
    k_steps
    dsimp only
    rename_i r1 _ _ _ _ _ _ h1 m1 i1 _ _ r2 _ _ _ _ _ _ h2 m2 i2 _ _ D _ _ _ _ _
    refine c _ _ _ _ ⟨_, rfl, ⟨rfl, rfl, ⟨_, rfl⟩, rfl, rfl, ⟨_, rfl⟩, ⟨_, opt_int ?_⟩, ⟨_, opt_int ?_⟩, ⟨_, opt_int ?_⟩, rfl⟩⟩ (by assumption) (by assumption) <;> omega
  · rintro h9 tk9 m9 nx ⟨D, rfl, e1, e2, ⟨t3, e3⟩, e4, e5, ⟨t6, e6⟩, ⟨t7, e7⟩, ⟨t8, e8⟩, ⟨t9, e9⟩, e10⟩ F1 N1
    k_dflt (refine cut4 (s := s) (h₀ := g') (L := L') (P := fun m nx => m = m9 ∧ nx = (D, listOf (nvs.drop told.toNat).toArray 0) :: news) (fun R Q c => ?_) ?_)
    · try clear hret
      k_steps
      dsimp only
      exact c _ _ _ _ ⟨rfl, rfl⟩ (by assumption) (by assumption)
    rintro h9 tk9 m9 nx ⟨rfl, rfl⟩ F1 N1
    k_dflt (refine cut1 (s := s) (h₀ := g') (L := L') (P := fun m nx => m = m9 ∧ nx = (D, listOf (nvs.drop told.toNat).toArray 0) :: news) (fun R Q c => ?_) ?_)
    · try clear hret
      k_steps
      walk_at "endcut"
    rintro h9 tk9 m9 nx ⟨rfl, rfl⟩ F1 N1
    have hsv : (S = none ∧ snv = .none) ∨ ∃ x a, S = some x ∧ snv = .ref a ∧ x.i = bs ∧ (∀ z, some x = some z → 0 ≤ z.i ∧ z.i < 1000) := by
      cases S with
      | none => cases hsn; exact .inl ⟨rfl, rfl⟩
      | some x =>
        obtain ⟨a, vs, n, e, _⟩ := tupLit hsn
        refine .inr ⟨x, a, rfl, e, (g9 x rfl).1, fun z hz => ?_⟩
        cases hz
        have := (g9 x rfl).1
        omega
    k_dflt (refine cut1 (s := s) (h₀ := g') (L := L') (P := fun m nx => m = m9 ∧ nx = (D, listOf (nvs.drop told.toNat).toArray 0) :: news) (fun R Q c => ?_) ?_)
    · try clear hret
      rcases hsv with ⟨rfl, rfl⟩ | ⟨x, ax, rfl, rfl, hx, hz⟩
      · have hz : ∀ z : Sn, (none : Option Sn) = some z → 0 ≤ z.i ∧ z.i < 1000 := fun z h => nomatch h
        k_steps
        all_goals first | (exfalso; omega) | walk_at "endcut"
      · k_steps
        all_goals first | (exfalso; omega) | walk_at "endcut"
    rintro h9 tk9 m9 nx ⟨rfl, rfl⟩ F1 N1
    k_dflt (refine cut1 (s := s) (h₀ := g') (L := L') (P := fun m nx => m = m9 ∧ nx = (D, listOf (nvs.drop told.toNat).toArray 0) :: news) (fun R Q c => ?_) ?_)
    · try clear hret
      rcases hsv with ⟨rfl, rfl⟩ | ⟨x, ax, rfl, rfl, hx, hz⟩
      · k_steps
        all_goals first | (exfalso; omega) | walk_at "endcut"
      · k_steps
        all_goals first | (exfalso; omega) | walk_at "endcut"
    rintro h9 tk9 m9 nx ⟨rfl, rfl⟩ F1 N1
    k_dflt (refine cut1 (s := s) (h₀ := g') (L := L') (P := fun m nx => TellsM lg nl dl D told bs off (bs + nw.length - 1) y snv m ∧ nx = (D, listOf (nvs.drop told.toNat).toArray 0) :: news) (fun R Q c => ?_) ?_)
    · try clear hret
      k_steps
      unfold Held
      rename IsRange _ _ _ _ _ _ _ _ => hr
      refine it_range (n := nw.length + 2) [Str.ofString "want"] (fun _ _ nx => nx = (D, listOf (nvs.drop told.toNat).toArray 0) :: news) rfl hr (small_one (by omega) (by omega) (by omega) (by omega)) (by rw [rangeSize_nat]; omega) (by assumption) (by assumption) rfl ?_ ?_
      · rintro i t u nx h tk own hi hoff rfl F3 N3
        clear F1 N1 hr
        generalize hj : bs - 1 + (i : Int) = j at *
        have fin : ∀ {h' tk' m'} (_ : Fr g' L' h' m') (_ : News g' L' h' ((D, listOf (nvs.drop told.toNat).toArray 0) :: news ++ own)) (_ : Kept (Str.ofString "i") [Str.ofString "want"] m9 m'),
            InvEndG g' L' (fun m' nx => Kept (Str.ofString "i") [Str.ofString "want"] m9 m' ∧ nx = (D, listOf (nvs.drop told.toNat).toArray 0) :: news) own { s with heap := h, toks := tk } { s with heap := h', toks := tk' } :=
          fun F N k => InvEndG.intro F N ⟨k, rfl⟩ hoff led_left led_right
        rcases hsv with ⟨rfl, rfl⟩ | ⟨x, ax, rfl, rfl, hx, hz⟩
        · k_steps
          all_goals first | exact fin (by assumption) (by assumption) (fun z h1 h2 => by (have h3 : z ≠ Str.ofString "want" := fun e => by (rw [e] at h2; simp at h2)); simp only [if_neg h1, if_neg h3, h2, Bool.false_eq_true, if_false]) | (exfalso; walk_at "termno")
        · k_steps
          all_goals first | exact fin (by assumption) (by assumption) (fun z h1 h2 => by (have h3 : z ≠ Str.ofString "want" := fun e => by (rw [e] at h2; simp at h2)); simp only [if_neg h1, if_neg h3, h2, Bool.false_eq_true, if_false]) | (exfalso; walk_at "termno")
      · rintro u nx h tk rfl F3 N3
        refine c _ _ _ _ ⟨TellsM.keep ⟨e1, e2, ⟨t3, e3⟩, e4, e5, ⟨t6, e6⟩, ⟨t7, e7⟩, ⟨t8, e8⟩, ⟨t9, e9⟩, e10⟩ fun z hz => ?_, rfl⟩ F3 N3
        obtain ⟨z1, z2, z3, z4, z5, z6⟩ := tellsVars_ne hz
        have z7 : [Str.ofString "want"].contains z = false := by simp [z2]
        simp only [if_neg z1, z7, Bool.false_eq_true, if_false]
    clear e1 e2 e3 e4 e5 e6 e7 e8 e9 e10 F1 N1
    rintro h9 tk9 m9 nx ⟨⟨e1, e2, ⟨t3, e3⟩, e4, e5, ⟨t6, e6⟩, ⟨t7, e7⟩, ⟨t8, e8⟩, ⟨t9, e9⟩, e10⟩, rfl⟩ F1 N1
    k_dflt (refine cut2 (s := s) (h₀ := g') (L := L') (P := fun m nx => ∃ lo hi t t', off - 1 ≤ lo ∧ lo ≤ bs + nw.length + 1 ∧ lo - 1 ≤ hi ∧ hi ≤ lo + 2 ∧ TellsM lg nl dl D told bs off (bs + nw.length - 1) y snv m ∧ m (Str.ofString "lo") = some (.int lo t) ∧ m (Str.ofString "hi") = some (.int hi t') ∧ nx = (D, listOf (nvs.drop told.toNat).toArray 0) :: news) (fun R Q c => ?_) ?_)
    · try clear hret
      k_steps
      dsimp only
      have q1 := Int.fmod_eq_emod_of_nonneg y (show (0 : Int) ≤ ((nvs.drop told.toNat).length : Int) + 3 by omega)
      have q2 := Int.emod_nonneg y (show ((nvs.drop told.toNat).length : Int) + 3 ≠ 0 by omega)
      have q3 := Int.emod_lt_of_pos y (show (0 : Int) < ((nvs.drop told.toNat).length : Int) + 3 by omega)
      have q4 := Int.fmod_eq_emod_of_nonneg (y.fdiv 7) (show (0 : Int) ≤ 4 by omega)
      refine c _ _ _ _ ⟨_, _, _, _, ?_, ?_, ?_, ?_, TellsM.keep ⟨e1, e2, ⟨t3, e3⟩, e4, e5, ⟨t6, e6⟩, ⟨t7, e7⟩, ⟨t8, e8⟩, ⟨t9, e9⟩, e10⟩ (fun z hz => ?_), rfl, rfl, rfl⟩ (by assumption) (by assumption)
      · omega
      · omega
      · omega
      · omega
      · obtain ⟨z1, z2, z3, z4, z5, z6⟩ := tellsVars_ne hz
        simp only [if_neg z3, if_neg z4]
    clear e1 e2 e3 e4 e5 e6 e7 e8 e9 e10 F1 N1
    rintro h9 tk9 m9 nx ⟨lo, hi, tl, th, b1, b2, b3, b4, ⟨e1, e2, ⟨t3, e3⟩, e4, e5, ⟨t6, e6⟩, ⟨t7, e7⟩, ⟨t8, e8⟩, ⟨t9, e9⟩, e10⟩, f1, f2, rfl⟩ F1 N1
    k_dflt (refine cutg4 (s := s) (G := fun g => KtsTurn ([envX cn cs L a ccd cl].filterMap (·.frame)) g' g ∧ Below (ktrTop dp un gd cn cs L a ccd cl []) base [envX cn cs L a ccd cl] g ∧ (Mine.hd.heap_1 w.params).In g ∧ Top p loose mean mg mb g ∧ KtsDicts ([envX cn cs L a ccd cl].filterMap (·.frame)) g) (L := L') (P := fun m nx => TellsM lg nl dl D told bs off (bs + nw.length - 1) y snv m ∧ nx = (D, listOf (nvs.drop told.toNat).toArray 0) :: news) (fun R QQ cc => ?_) ?_)
    · try clear hret
      by_cases hin : off ≤ lo ∧ lo ≤ hi ∧ hi ≤ bs + nw.length
      · obtain ⟨i1, i2, i3⟩ := hin
        k_dflt (refine cut2 (s := s) (h₀ := g') (L := L') (P := fun m nx => ∃ W, TellsM lg nl dl D told bs off (bs + nw.length - 1) y snv m ∧ m (Str.ofString "lo") = some (.int lo tl) ∧ m (Str.ofString "hi") = some (.int hi th) ∧ m (Str.ofString "want") = some (.ref W) ∧ nx = (W, listOf ((nvs.drop (lo - bs).toNat).take ((hi - bs).toNat - (lo - bs).toNat)).toArray 0) :: (D, listOf (nvs.drop told.toNat).toArray 0) :: news) (fun R Q c => ?_) ?_)
        · try clear hret
          k_steps
          all_goals first | (exfalso; omega) | skip
          dsimp only
          refine c _ _ _ _ ⟨_, TellsM.keep ⟨e1, e2, ⟨t3, e3⟩, e4, e5, ⟨t6, e6⟩, ⟨t7, e7⟩, ⟨t8, e8⟩, ⟨t9, e9⟩, e10⟩ (fun z hz => ?_), ?_, ?_, rfl, rfl⟩ (by assumption) (by assumption)
          · obtain ⟨z1, z2, z3, z4, z5, z6⟩ := tellsVars_ne hz
            simp only [if_neg z2]
          · walk_at "look"
          · walk_at "look"
        clear e1 e2 e3 e4 e5 e6 e7 e8 e9 e10 f1 f2 F1 N1
        rintro h9 tk9 m9 nx ⟨W, ⟨e1, e2, ⟨t3, e3⟩, e4, e5, ⟨t6, e6⟩, ⟨t7, e7⟩, ⟨t8, e8⟩, ⟨t9, e9⟩, e10⟩, f1, f2, f3, rfl⟩ F1 N1
        have ho : off = bs + told := g5
        have hent : EntAll news ((vs.drop (lo - off).toNat).take (hi - lo).toNat) ((rs.drop (lo - off).toNat).take (hi - lo).toNat) := (hv.drop _).take _
        have hfit' : Fits ((rs.drop (lo - off).toNat).take (hi - lo).toNat) := fun r hr => hfit r (List.mem_of_mem_drop (List.mem_of_mem_take hr))
        have hlen' : ((rs.drop (lo - off).toNat).take (hi - lo).toNat).length < 1000 := by rw [List.length_take, List.length_drop]; omega
        k_dflt (refine cut1 (s := s) (h₀ := g') (L := L') (P := fun m nx => ∃ G c ys tl', TellsM lg nl dl D told bs off (bs + nw.length - 1) y snv m ∧ m (Str.ofString "lo") = some (.int lo tl) ∧ m (Str.ofString "hi") = some (.int hi th) ∧ m (Str.ofString "want") = some (.ref W) ∧ m (Str.ofString "got") = some (.ref G) ∧ nx = (W, listOf ((nvs.drop (lo - bs).toNat).take ((hi - bs).toNat - (lo - bs).toNat)).toArray 0) :: (D, listOf (nvs.drop told.toNat).toArray 0) :: (news ++ tl') ∧ (G, listOf ys.toArray c) ∈ tl' ∧ DatAll tl' ys (((rs.drop (lo - off).toNat).take (hi - lo).toNat).map Rw.dat)) (fun R Q c => ?_) ?_)
        · try clear hret
          k_steps
          unfold Held
          rename_i tl1 _ _ o1 S1 m1 _ _ _ _ tl2 _ _ o2 G ys mG aG _ FW NW
          have oS : ∀ q ∈ (W, listOf ((nvs.drop (lo - bs).toNat).take ((hi - bs).toNat - (lo - bs).toNat)).toArray 0) :: (D, listOf (nvs.drop told.toNat).toArray 0) :: (news ++ tl2), q.1 ≠ S1 := by
            intro q hq
            simp only [List.mem_cons, List.mem_append] at hq
            rcases hq with rfl | rfl | hq | hq
            · exact Nat.ne_of_lt (o1 _ (.head _) _ m1)
            · exact Nat.ne_of_lt (o1 _ (.tail _ (.head _)) _ m1)
            · exact Nat.ne_of_lt (o1 q (.tail _ (.tail _ hq)) _ m1)
            · exact o2 (S1, _) (by simp only [List.mem_cons, List.mem_append]; exact .inr (.inr (.inr m1))) q hq
          have eS : ((vs.drop (lo - off).toNat).take (hi - lo).toNat).length < 1000 := by rw [hent.length]; exact hlen'
          generalize (vs.drop (lo - off).toNat).take (hi - lo).toNat = us0 at m1 eS
          generalize hWd : (W, listOf ((nvs.drop (lo - bs).toNat).take ((hi - bs).toNat - (lo - bs).toNat)).toArray 0) :: (D, listOf (nvs.drop told.toNat).toArray 0) :: (news ++ tl2) = rest at oS
          refine While_inv2 (h₀ := g') (L := L') (fun n m nx => m = _ ∧ ∃ (us : List Value) (c : Nat), us.length = n ∧ us.length < 1000 ∧ nx = (S1, listOf us.toArray c) :: rest) FW (kst_newsOf NW ?_) ⟨rfl, us0, 0, rfl, eS, rfl⟩ ?_
          · subst hWd
            walk_at "p9"
          · rintro n m12 nx h12 tk12 F12 N12 ⟨rfl, us, c12, rfl, hus, rfl⟩
            clear FW NW
            rcases nil_or_app us with rfl | ⟨pp, yy, rfl⟩
            · k_steps
              dsimp only
              subst hWd
              refine c _ _ _ _ ⟨G, _, ys, tl2, TellsM.keep ⟨e1, e2, ⟨t3, e3⟩, e4, e5, ⟨t6, e6⟩, ⟨t7, e7⟩, ⟨t8, e8⟩, ⟨t9, e9⟩, e10⟩ (fun z hz => ?_), ?_, ?_, ?_, rfl, rfl, mG, aG⟩ (by assumption) (kst_newsOf (by assumption) (fun p hp => .tail _ hp))
              · obtain ⟨z1, z2, z3, z4, z5, z6⟩ := tellsVars_ne hz
                simp only [if_neg z5, if_neg z6]
              · walk_at "look"
              · walk_at "look"
              · walk_at "look"
            · rw [List.length_append, List.length_singleton] at hus
              k_steps
              · dsimp only
                exact ⟨_, _, _, _, pp.length, rfl, by assumption, by assumption, by rw [List.length_append, List.length_singleton]; exact Nat.lt_succ_self _, rfl, pp, _, rfl, by omega, rfl⟩
              · exfalso
                rename ¬ _ => hno
                rw [List.length_append, List.length_singleton] at hno
                omega
        clear e1 e2 e3 e4 e5 e6 e7 e8 e9 e10 f1 f2 f3 F1 N1
        rintro h9 tk9 m9 nx ⟨G, cG, ys, tlG, ⟨e1, e2, ⟨t3, e3⟩, e4, e5, ⟨t6, e6⟩, ⟨t7, e7⟩, ⟨t8, e8⟩, ⟨t9, e9⟩, e10⟩, f1, f2, f3, f4, rfl, mG, aG⟩ F1 N1
        have hwW : DatAll news ((nvs.drop (lo - bs).toNat).take ((hi - bs).toNat - (lo - bs).toNat)) (((rs.drop (lo - off).toNat).take (hi - lo).toNat).map Rw.dat) := by
          have e : ((rs.drop (lo - off).toNat).take (hi - lo).toNat) = (nw.drop (lo - bs).toNat).take ((hi - bs).toNat - (lo - bs).toNat) := by
            rw [g6, List.drop_drop, show told.toNat + (lo - off).toNat = (lo - bs).toNat by omega, show (hi - lo).toNat = (hi - bs).toNat - (lo - bs).toNat by omega]
          rw [e]
          exact datAll_take _ (datAll_drop _ hn)
        have hent2 : EntAll news ((vs.drop (off - off).toNat).take (bs + nw.length - 1 + 1 - off).toNat) rs := by
          rw [Int.sub_self, Int.toNat_zero, List.drop_zero, List.take_of_length_le (by omega)]
          exact hv
        k_steps
        dsimp only
        exact cc _ _ _ _ _ ⟨.refl, BB, XX, TT, DD⟩ ⟨⟨e1, e2, ⟨t3, e3⟩, e4, e5, ⟨t6, e6⟩, ⟨t7, e7⟩, ⟨t8, e8⟩, ⟨t9, e9⟩, e10⟩, rfl⟩ (by assumption) (kst_newsOf (by assumption) (by walk_at "p9"))
      · have hent2 : EntAll news ((vs.drop (off - off).toNat).take (bs + nw.length - 1 + 1 - off).toNat) rs := by
          rw [Int.sub_self, Int.toNat_zero, List.drop_zero, List.take_of_length_le (by omega)]
          exact hv
        k_dflt (refine cut2 (s := s) (h₀ := g') (L := L') (P := fun m nx => TellsM lg nl dl D told bs off (bs + nw.length - 1) y snv m ∧ m (Str.ofString "lo") = some (.int lo tl) ∧ m (Str.ofString "hi") = some (.int hi th) ∧ m (Str.ofString "want") = some .none ∧ nx = (D, listOf (nvs.drop told.toNat).toArray 0) :: news) (fun R Q c => ?_) ?_)
        · k_steps
          all_goals first | (exfalso; omega) | skip
          all_goals dsimp only
          all_goals refine c _ _ _ _ ⟨TellsM.keep ⟨e1, e2, ⟨t3, e3⟩, e4, e5, ⟨t6, e6⟩, ⟨t7, e7⟩, ⟨t8, e8⟩, ⟨t9, e9⟩, e10⟩ (fun z hz => ?_), ?_, ?_, rfl, rfl⟩ (by assumption) (by assumption)
          all_goals first | walk_at "look" | skip
          all_goals (obtain ⟨z1, z2, z3, z4, z5, z6⟩ := tellsVars_ne hz; simp only [if_neg z2])
        clear e1 e2 e3 e4 e5 e6 e7 e8 e9 e10 f1 f2 F1 N1
        rintro h9 tk9 m9 nx ⟨⟨e1, e2, ⟨t3, e3⟩, e4, e5, ⟨t6, e6⟩, ⟨t7, e7⟩, ⟨t8, e8⟩, ⟨t9, e9⟩, e10⟩, f1, f2, f3, rfl⟩ F1 N1
        have hP : lo > hi ∨ (lo ≤ hi ∧ lo < off) ∨ (lo ≤ hi ∧ ¬ lo < off ∧ hi > off + vs.length) := by omega
        have fin : TellsM lg nl dl D told bs off (bs + nw.length - 1) y snv (fun z => if z = Str.ofString "got" then some .none else m9 z) := by
          refine TellsM.keep ⟨e1, e2, ⟨t3, e3⟩, e4, e5, ⟨t6, e6⟩, ⟨t7, e7⟩, ⟨t8, e8⟩, ⟨t9, e9⟩, e10⟩ (fun z hz => ?_)
          obtain ⟨z1, z2, z3, z4, z5, z6⟩ := tellsVars_ne hz
          simp only [if_neg z6]
        rcases hP with hP | ⟨hP, hQ⟩ | ⟨hP, hQ, hQ'⟩
        · k_steps
          dsimp only
          exact cc _ _ _ _ _ ⟨by assumption, by assumption, by assumption, by assumption, by assumption⟩ ⟨fin, rfl⟩ (by assumption) (kst_newsOf (by assumption) (by walk_at "p9"))
        · k_steps
          dsimp only
          exact cc _ _ _ _ _ ⟨by assumption, by assumption, by assumption, by assumption, by assumption⟩ ⟨fin, rfl⟩ (by assumption) (kst_newsOf (by assumption) (by walk_at "p9"))
        · k_steps
          dsimp only
          exact cc _ _ _ _ _ ⟨by assumption, by assumption, by assumption, by assumption, by assumption⟩ ⟨fin, rfl⟩ (by assumption) (kst_newsOf (by assumption) (by walk_at "p9"))
    clear e1 e2 e3 e4 e5 e6 e7 e8 e9 e10 f1 f2 F1 N1 BB XX TT DD
    rintro g2 h9 tk9 m9 nx ⟨TG, BB, XX, TT, DD⟩ ⟨⟨e1, e2, ⟨t3, e3⟩, e4, e5, ⟨t6, e6⟩, ⟨t7, e7⟩, ⟨t8, e8⟩, ⟨t9, e9⟩, e10⟩, rfl⟩ F1 N1
    have hdt : DatAll news (dvs.take told.toNat) ((dk.take told.toNat).map Rw.dat) := datAll_take _ hdk
    have retF : ∀ {h tk} {nx : Led}, Fr h₀ L h m → News h₀ L h nx → (∀ p ∈ news, p ∈ nx) → Q (.bool true) { s with heap := h, toks := tk } := fun F N k =>
      hret _ [] _ _ F (kst_newsOf N (fun p hp => k p (by rwa [List.append_nil] at hp))) (fun _ _ _ h => nomatch h) rfl
    rcases hsv with ⟨rfl, rfl⟩ | ⟨x, ax, rfl, rfl, hx, hz⟩
    · obtain ⟨q1, q2⟩ := g11 rfl
      by_cases ht : told = nw.length
      · have e := q2 ht
        subst e
        try clear hret
        k_steps
        · unfold Held
          refine dat_eq (n := 5) (by k_asm) (.list (by k_mem) (datAll_up hdk (by walk_at "p9"))) (.list (by k_mem) (datAll_up hn (by walk_at "p9"))) (datOk_rows5 _) (by ktr_units) ?_
          k_steps
          exact retF (by assumption) (by assumption) (by walk_at "p9")
        all_goals (exfalso; omega)
      · try clear hret
        k_steps
        all_goals try (exfalso; omega)
        · unfold Held
          have hall : DatAll news (dvs.take told.toNat ++ nvs.drop told.toNat) (nw.map Rw.dat) := by
            have := datAll_app (datAll_take told.toNat hdk) (datAll_drop told.toNat hn)
            rwa [q1, List.take_append_drop] at this
          refine dat_eq (n := 5) (by k_asm) (.list (by k_mem) (datAll_up hall (by walk_at "p9"))) (.list (by k_mem) (datAll_up hn (by walk_at "p9"))) (datOk_rows5 _) (by ktr_units) ?_
          k_steps
          exact retF (by assumption) (by assumption) (by walk_at "p9")
    · have q1 := g10 (by simp)
      obtain ⟨_, cfv, nS, ta, tb, tc, eS, mS⟩ := snap_shape hsn
      cases eS
      try clear hret
      k_steps
      unfold Held
      have e0 : nw[0]? = some ⟨x.t, x.i, #[]⟩ := (g9 x rfl).2
      have e : nw = [⟨x.t, x.i, #[]⟩] ++ (dk.drop (Int.toNat 1)).take (told.toNat - Int.toNat 1) ++ nw.drop told.toNat := by
        show nw = _ ++ (dk.drop 1).take (told.toNat - 1) ++ nw.drop told.toNat
        rw [q1]
        cases hnw : nw with
        | nil => rw [hnw] at e0; cases e0
        | cons r0 nw' =>
          rw [hnw] at e0
          cases e0
          have e3 : told.toNat = (told.toNat - 1) + 1 := by omega
          rw [e3, Nat.add_sub_cancel, List.drop_succ_cons, List.drop_succ_cons, List.drop_zero, List.append_assoc, List.take_append_drop]
          rfl
      refine dat_eq (n := 5) (by k_asm) (.list (by k_mem) ?_) (.list (by k_mem) (datAll_up hn (by walk_at "p9"))) (datOk_rows5 _) (by ktr_units) ?_
      · rw [e]
        refine datAll_app (datAll_app (.cons (.tuple (by k_mem) (.cons (.int _ _) (.cons (.int _ _) (.cons (.int _ _) (.cons (.bytes _ _) .nil))))) .nil) (datAll_up (datAll_take _ (datAll_drop _ hdk)) (by walk_at "p9"))) (datAll_up (datAll_drop _ hn) (by walk_at "p9"))
      · k_steps
        exact retF (by assumption) (by assumption) (by walk_at "p9")
end

end
section
def HoldMark : Prop := True
theorem holdMark : HoldMark := trivial
section
variable {prog : Program} {w : World} {A : Around} {h₀ : Heap} {L : Addr} {m : Str → Option Value} {env : Env} {elt : PySem.Expr} {x : Str} {scope : Scope} {cl : List (Str × Addr)}
theorem comp_range {r : Addr} {a b : Int} {t₀ u₀ v₀ : Tok} {n : Nat} {news : Led} {Fin : Shared → List Value → Led → Prop} {s₁ : Shared} (J : Nat → List Value → Led → Prop)
    (hh : A.handled = none) (F : Fr h₀ L s₁.heap m) (N : News h₀ L s₁.heap news) (hr : IsRange s₁.heap r a b 1 t₀ u₀ v₀) (hsm : Builtin.Range.small a b 1 = true) (hn : Builtin.Range.rangeSize a b 1 = ((n : Nat) : Int)) (hf : n < 100000) (hj : J 0 [] news)
    (turn : ∀ (g : Heap) i t ys nx I oI C oC D m₂ h tk (E' : Value → Shared → Prop), i < n → J i ys nx → LCg.NsObj oC m₂ → m₂ x = some (.int (a + (i : Int)) t) → Fr h₀ L h m → News h₀ L h ((I, oI) :: (C, oC) :: (D, LCg.lst ys) :: nx) → LCg.Off3 I C D nx → ((@Ne Nat I C) ∧ (@Ne Nat I D) ∧ (@Ne Nat C D)) →
      wpAny (model prog w) A (eval elt (compEnvC scope cl C env)) (LCg.CompEnd h₀ L m { s₁ with heap := h, toks := tk } I oI C oC D (LCg.lst ys) (fun _ => True) (fun y nx' => J (i + 1) (ys ++ [y]) nx')) E' { s₁ with heap := h, toks := tk })
    (fin : ∀ g ys nx, J n ys nx → Fin { s₁ with heap := g } ys nx) : LCg.CompSrc prog w A h₀ L m env elt x scope cl Fin (.ref r) s₁ := by
  refine LCg.CompSrc.range hh F N hr hsm hn (by rw [PySem.sizeLine_eq]; omega) fun g => ?_
  refine comp_turns (n := n) J ?_ (fin g) _ 0 [] news (by omega) hj
  rintro i v ys nx I oI C oC D m₂ h tk E' hi ⟨t, rfl⟩ hj hC hx F N off ne
  exact turn g i t ys nx I oI C oC D m₂ h tk E' hi hj hC hx F N off ne
end
section
variable {prog : Program} {w : World} {A : Around} {E : Value → Shared → Prop} {s : Shared} {env : Env} {h₀ : Heap} {x : Str} {body : List Stmt} {Q : Flow → Shared → Prop}
theorem it_rangeJ {r : Addr} {a₀ b₀ : Int} {t₀ u₀ v₀ : Tok} {n : Nat} {m₀ : Str → Option Value} {news : Led} (J : Nat → (Str → Option Value) → Led → Prop)
    (hh : A.handled = none) (hr : IsRange s.heap r a₀ b₀ 1 t₀ u₀ v₀) (hsmall : Builtin.Range.small a₀ b₀ 1 = true) (hsz : Builtin.Range.rangeSize a₀ b₀ 1 = (n : Int)) (F : Fr h₀ env.locals s.heap m₀) (N : News h₀ env.locals s.heap news) (hj : J 0 m₀ news)
    (turn : ∀ i t (u : Str → Option Value) nx h tk own, i < n → OwnOff own (nx.map (·.1)) → J i u nx → Fr h₀ env.locals h (fun y => if y = x then some (.int (a₀ + (i : Int)) t) else u y) → News h₀ env.locals h (nx ++ own) →
      wpAny (model prog w) A (execs body env) (InvPostG h₀ env.locals (J (i + 1)) own { s with heap := h, toks := tk } Q) E { s with heap := h, toks := tk })
    (done : ∀ (u : Str → Option Value) nx h tk, J n u nx → Fr h₀ env.locals h u → News h₀ env.locals h nx → Q .next { s with heap := h, toks := tk }) :
    wpAny (model prog w) A (pyIter (.ref r)) (fun it s₂ => LoopAtV prog w A h₀ env x body Q E it s₂) E s := by
  refine wpAny_pyIter_range hr hsmall ?_
  have W : Walks prog w A s.heap.objs.size [s.heap.objs.size] [s.heap.objs.size] n (fun i v => i < n ∧ ∃ t, v = .int (a₀ + i * 1) t)
      (fun i h => IsRangeIter h s.heap.objs.size (a₀ + (i : Nat) * 1) ((n : Int) - (i : Nat)) 1) := (Walks.range hh _ a₀ 1 n).bound
  refine kdr_loop J W (fun _ h => h) (fun _ h => h) ?_ ?_ ?_ ?_ (by show IsRangeIter _ _ _ _ _; rw [hsz]; simpa using Heap.get?_push_size _ rfl) (F.push _) (fun p hp => ⟨Heap.get?_push_of_some _ (N p hp).1, (N p hp).2⟩) hj ?_ done
  · intro i h hi b hb
    rw [List.mem_singleton.mp hb]
    exact ⟨_, hi⟩
  · intro hm
    exact absurd F.ns.lt ((List.mem_singleton.mp hm) ▸ Nat.lt_irrefl _)
  · intro b hb
    rw [List.mem_singleton.mp hb]
    exact next_is_new F
  · intro p hp hI
    exact absurd (Heap.lt_size (N p hp).1) ((List.mem_singleton.mp hI) ▸ Nat.lt_irrefl _)
  · rintro i v m₁ nx h tk own hi ⟨_, t, rfl⟩ hoff j F₁ N₁
    have e1 : a₀ + (i : Int) * 1 = a₀ + (i : Int) := by omega
    rw [e1] at F₁
    exact turn i t m₁ nx h tk own hi hoff j F₁ N₁
end
/-- the names that law keeps from turn to turn -/
structure LawM (nm dl nl lg sl : Addr) (told written : Int) (snv : Value) (m : Str → Option Value) : Prop where
  nums : m (Str.ofString "nums") = some (.ref nm)
  disk : m (Str.ofString "disk") = some (.ref dl)
  now : m (Str.ofString "now") = some (.ref nl)
  log : m (Str.ofString "log") = some (.ref lg)
  saves : m (Str.ofString "saves") = some (.ref sl)
  snap : m (Str.ofString "snap") = some snv
  told : ∃ t, m (Str.ofString "told") = some (.int told t)
  written : ∃ t, m (Str.ofString "written") = some (.int written t)
def lawVars : List Str := [Str.ofString "nums", Str.ofString "disk", Str.ofString "now", Str.ofString "log", Str.ofString "saves", Str.ofString "snap", Str.ofString "told", Str.ofString "written"]
theorem LawM.keep {nm dl nl lg sl : Addr} {told written : Int} {snv : Value} {m m' : Str → Option Value} (h : LawM nm dl nl lg sl told written snv m) (k : ∀ z ∈ lawVars, m' z = m z) : LawM nm dl nl lg sl told written snv m' := by
  obtain ⟨e1, e2, e3, e4, e5, e6, e7, e8⟩ := h
  refine ⟨?_, ?_, ?_, ?_, ?_, ?_, ?_, ?_⟩ <;> (rw [k _ (by decide)]; assumption)
theorem keep8 {m m' : Str → Option Value} (h1 : m' (Str.ofString "nums") = m (Str.ofString "nums")) (h2 : m' (Str.ofString "disk") = m (Str.ofString "disk")) (h3 : m' (Str.ofString "now") = m (Str.ofString "now")) (h4 : m' (Str.ofString "log") = m (Str.ofString "log"))
    (h5 : m' (Str.ofString "saves") = m (Str.ofString "saves")) (h6 : m' (Str.ofString "snap") = m (Str.ofString "snap")) (h7 : m' (Str.ofString "told") = m (Str.ofString "told")) (h8 : m' (Str.ofString "written") = m (Str.ofString "written")) : ∀ z ∈ lawVars, m' z = m z := by
  intro z hz
  simp only [lawVars, List.mem_cons, List.not_mem_nil, or_false] at hz
  rcases hz with rfl | rfl | rfl | rfl | rfl | rfl | rfl | rfl <;> assumption
/-- a save as the law keeps it: the part handed out, its rows, the snapshot's row -/
inductive SaveAt (led : Led) (v : Value) (b : St) : Prop
  | mk (a out rws : Addr) (mk : Value) (n : Nat) (vs : List Value) (n1 : Nat) (ys : List Value) (n2 : Nat) (e : v = .ref a) (m1 : (a, ({ cls := .type "tuple", data := .seq [Value.ref out, .ref rws, mk].toArray n } : Obj)) ∈ led)
    (m2 : (out, listOf vs.toArray n1) ∈ led) (a1 : EntAll led vs (b.now.drop b.told)) (m3 : (rws, listOf ys.toArray n2) ∈ led) (a2 : DatAll led ys ((b.now.drop b.told).map Rw.dat)) (a3 : DatIn led mk (optDat b.snap))
inductive SavesAll (led : Led) : List Value → List St → Prop
  | nil : SavesAll led [] []
  | cons {v vs b bs} : SaveAt led v b → SavesAll led vs bs → SavesAll led (v :: vs) (b :: bs)
theorem SaveAt.up {led led' : Led} {v : Value} {b : St} (h : SaveAt led v b) (k : ∀ p ∈ led, p ∈ led') : SaveAt led' v b := by
  obtain ⟨a, out, rws, mk, n, vs, n1, ys, n2, e, m1, m2, a1, m3, a2, a3⟩ := h
  exact ⟨a, out, rws, mk, n, vs, n1, ys, n2, e, k _ m1, k _ m2, a1.up k, k _ m3, datAll_up a2 k, datIn_up a3 k⟩
theorem SavesAll.up {led led' : Led} : ∀ {vs : List Value} {bs : List St}, SavesAll led vs bs → (∀ p ∈ led, p ∈ led') → SavesAll led' vs bs
  | _, _, .nil, _ => .nil
  | _, _, .cons a b, k => .cons (a.up k) (b.up k)
theorem SavesAll.length {led : Led} : ∀ {vs : List Value} {bs : List St}, SavesAll led vs bs → vs.length = bs.length
  | _, _, .nil => rfl
  | _, _, .cons _ h => by rw [List.length_cons, List.length_cons, h.length]
theorem SavesAll.get {led : Led} : ∀ {vs : List Value} {bs : List St} {k : Nat} {v : Value}, SavesAll led vs bs → vs[k]? = some v → ∃ b, bs[k]? = some b ∧ SaveAt led v b
  | _, _, 0, _, .cons h _, e => by cases e; exact ⟨_, rfl, h⟩
  | _, _, k + 1, _, .cons _ h, e => SavesAll.get (k := k) h (by simpa using e)
theorem SavesAll.snoc {led : Led} : ∀ {vs : List Value} {bs : List St} {v : Value} {b : St}, SavesAll led vs bs → SaveAt led v b → SavesAll led (vs ++ [v]) (bs ++ [b])
  | _, _, _, _, .nil, h => .cons h .nil
  | _, _, _, _, .cons a r, h => .cons a (r.snoc h)
/-- how the ledger bears the law's state -/
structure LawL (ns : List Int) (hs : List St) (disk : List Rw) (cur : St) (nm dl nl lg dx : Addr) (snv : Value) (o : Obj) (svs : List Value) (rest : Led) : Prop where
  log : ∃ sv el vs n, LogD o sv el (cur.bs + cur.told) ∧ (el, listOf vs.toArray n) ∈ rest ∧ EntAll rest vs (cur.now.drop cur.told) ∧ SnapIn rest sv cur.snap
  inst : (lg, instObj 138 dx) ∈ rest
  now : ∃ vs n, (nl, listOf vs.toArray n) ∈ rest ∧ DatAll rest vs (cur.now.map Rw.dat)
  disk : ∃ vs n, (dl, listOf vs.toArray n) ∈ rest ∧ DatAll rest vs (disk.map Rw.dat)
  snap : DatIn rest snv (optDat cur.snap)
  saves : SavesAll rest svs hs.tail
  nums : ∃ vs n, (nm, listOf vs.toArray n) ∈ rest ∧ IntsAre vs ns
structure NumsOk (ns : List Int) : Prop where
  pos : 0 < ns.length
  ten : ns.length ≤ 10
  all : ∀ x ∈ ns, 0 ≤ x ∧ x < 999983
structure Sep (cA cF dx sl : Addr) (rest : Led) : Prop where
  n1 : @Ne Nat cA cF
  n2 : @Ne Nat cA dx
  n3 : @Ne Nat cA sl
  n4 : @Ne Nat cF dx
  n5 : @Ne Nat cF sl
  n6 : @Ne Nat dx sl
  rA : ∀ p ∈ rest, p.1 ≠ cA
  rF : ∀ p ∈ rest, p.1 ≠ cF
  rD : ∀ p ∈ rest, p.1 ≠ dx
  rS : ∀ p ∈ rest, p.1 ≠ sl
def rowsFrom (n : Nat) : List Rw := (List.range n).map fun (j : Nat) => (⟨1, (j : Int), #[]⟩ : Rw)
theorem rowsFrom_len (n : Nat) : (rowsFrom n).length = n := by simp [rowsFrom]
theorem rowsFrom_get {n k : Nat} {r : Rw} (h : (rowsFrom n)[k]? = some r) : r = ⟨1, (k : Int), #[]⟩ := by
  unfold rowsFrom at h
  rw [List.getElem?_map] at h
  cases e : (List.range n)[k]? with
  | none => rw [e] at h; cases h
  | some j =>
    rw [e] at h
    have : j = k := by
      have := List.getElem?_eq_some_iff.mp e
      obtain ⟨h1, h2⟩ := this
      simpa using h2.symm
    subst this
    exact (Option.some.inj h).symm
/-- the state at the start -/
def st0 (n : Nat) : St := ⟨rowsFrom n, n, 0, none, 1⟩
theorem Inv.start {n : Nat} (h1 : 1 ≤ n) (h2 : n ≤ 3) : Inv 3 [st0 n] 0 (rowsFrom n) (st0 n) := by
  have hn : StOk 3 (st0 n) := by
    refine ⟨by show 0 < (rowsFrom n).length; rw [rowsFrom_len]; omega, fun k r hr => ?_, h1, by show n ≤ (rowsFrom n).length; rw [rowsFrom_len]; omega, Int.le_refl 0, by show (0 : Int) + ((rowsFrom n).length : Int) ≤ 3 + 1; rw [rowsFrom_len]; omega, fun s hs => nomatch hs⟩
    have := rowsFrom_get (n := n) hr
    subst this
    show (k : Int) = 0 + (k : Int) ∧ (1 : Int) ≤ 1 ∧ (1 : Int) ≤ 1
    omega
  refine ⟨hn, fun a ha => ?_, by show (1 : Int) ≤ 3; omega, ⟨_, rfl, rfl⟩, fun k a ha => ?_, fun j k a b hjk ha hb => ?_⟩
  · rw [List.mem_singleton.mp ha]; exact hn
  · cases k with
    | zero => cases ha; exact ⟨Int.le_refl _, Int.le_refl _, _, Agree.self hn, fun _ => .inl (by show n ≤ (rowsFrom n).length; rw [rowsFrom_len]; omega)⟩
    | succ k => cases ha
  · cases k with
    | zero => omega
    | succ k => cases hb
theorem rowsFrom_succ (n : Nat) : rowsFrom (n + 1) = rowsFrom n ++ [⟨1, (n : Int), #[]⟩] := by
  simp [rowsFrom, List.range_succ]
theorem led_rot {a b c d : Addr × Obj} {l : Led} : ∀ p ∈ b :: c :: d :: (a :: l), p ∈ a :: b :: c :: d :: l := by
  intro p hp
  simp only [List.mem_cons] at hp ⊢
  grind
section
variable {M : Model} {A : Around} {s s₀ : Shared} {env : Env} {Q : Flow → Shared → Prop} {E : Value → Shared → Prop} {h₀ : Heap} {L : Addr} {P : (Str → Option Value) → Led → Prop}
theorem cut7 {a b c d e f g : Stmt} {rest : List Stmt} (h : ∀ R Q, Cut M A R env Q E h₀ L P s → wpAny M A (execs (a :: b :: c :: d :: e :: f :: g :: R) env) Q E s₀) (key : Cut M A rest env Q E h₀ L P s) : wpAny M A (execs (a :: b :: c :: d :: e :: f :: g :: rest) env) Q E s₀ := h rest Q key
end
/-- what holds of the frame and the ledger between two turns -/
inductive LawJ (cA cF : Addr) (ns : List Int) (B : Int) (m : Str → Option Value) (nx : Led) : Prop
  | mk (hs : List St) (w : Nat) (disk : List Rw) (cur : St) (nm dl nl lg sl dx : Addr) (snv : Value) (o oA oF : Obj) (tF : Tok) (va : Option Value) (svs : List Value) (sc : Nat) (rest : Led)
    (inv : Inv B hs w disk cur ∧ (hs.length : Int) ≤ B) (frame : LawM nm dl nl lg sl cur.told w snv m) (led : LawL ns hs disk cur nm dl nl lg dx snv o svs rest) (sep : Sep cA cF dx sl rest) (hF : oF.data = .cell (some (.int cur.fresh tF))) (hA : oA.data = .cell va)
    (e : nx = (cA, oA) :: (cF, oF) :: (dx, o) :: (sl, listOf svs.toArray sc) :: rest)
theorem led_ne {h₀ h : Heap} {L a b : Addr} {news : Led} {o o' : Obj} (N : News h₀ L h news) (m : (a, o) ∈ news) (m' : (b, o') ∈ news) (hd : o.data ≠ o'.data) : @Ne Nat a b := fun e => hd (by have e : a = b := e; subst e; rw [led_one N m m'])
theorem LawJ.start {cA cF nm dl nl lg dx el sl : Addr} {oA oF o : Obj} {tF : Tok} {va : Option Value} {ns : List Int} {m : Str → Option Value} {vsN ys : List Value} {cN cY : Nat} {tl : Led} {first : Int} (f1 : 1 ≤ first) (f2 : first ≤ 3)
    (M : LawM nm dl nl lg sl first 0 .none m) (hN : IntsAre vsN ns) (hys : DatAll tl ys ((rowsFrom first.toNat).map Rw.dat)) (ld : LogD o .none el first)
    (S : Sep cA cF dx sl ((nl, listOf ys.toArray 0) :: (dl, listOf ys.toArray cY) :: (nm, listOf vsN.toArray cN) :: (el, listOf ([] : List Value).toArray 0) :: (lg, instObj 138 dx) :: tl)) (hF : oF.data = .cell (some (.int 1 tF))) (hA : oA.data = .cell va) :
    LawJ cA cF ns 3 m ((cA, oA) :: (cF, oF) :: (dx, o) :: (sl, listOf ([] : List Value).toArray 0) :: (nl, listOf ys.toArray 0) :: (dl, listOf ys.toArray cY) :: (nm, listOf vsN.toArray cN) :: (el, listOf ([] : List Value).toArray 0) :: (lg, instObj 138 dx) :: tl) := by
  have e : ((first.toNat : Nat) : Int) = first := by omega
  have up : ∀ p ∈ tl, p ∈ ((nl, listOf ys.toArray 0) :: (dl, listOf ys.toArray cY) :: (nm, listOf vsN.toArray cN) :: (el, listOf ([] : List Value).toArray 0) :: (lg, instObj 138 dx) :: tl : Led) := fun p hp => .tail _ (.tail _ (.tail _ (.tail _ (.tail _ hp))))
  refine ⟨[st0 first.toNat], 0, rowsFrom first.toNat, st0 first.toNat, nm, dl, nl, lg, sl, dx, .none, o, oA, oF, tF, va, [], 0, _, ⟨Inv.start (by omega) (by omega), show (1 : Int) ≤ 3 by decide⟩, ?_, ⟨⟨.none, el, [], 0, ?_, ?_, ?_, rfl⟩, ?_, ⟨ys, 0, ?_, datAll_up hys up⟩, ⟨ys, cY, ?_, datAll_up hys up⟩, .none, .nil, ⟨vsN, cN, ?_, hN⟩⟩, S, hF, hA, rfl⟩
  · show LawM nm dl nl lg sl ((first.toNat : Nat) : Int) 0 .none m
    rw [e]; exact M
  · show LogD o .none el (0 + ((first.toNat : Nat) : Int))
    rw [e, Int.zero_add]; exact ld
  · exact .tail _ (.tail _ (.tail _ (.head _)))
  · show EntAll _ [] ((rowsFrom first.toNat).drop first.toNat)
    rw [List.drop_of_length_le (by rw [rowsFrom_len]; exact Nat.le_refl _)]
    exact .nil
  · exact .tail _ (.tail _ (.tail _ (.tail _ (.head _))))
  · exact .head _
  · exact .tail _ (.head _)
  · exact .tail _ (.tail _ (.head _))
/-- the same within a turn: what the loop owns stands behind it -/
inductive LawT (cA cF : Addr) (ns : List Int) (B : Int) (own : Led) (y : Int) (m : Str → Option Value) (nx : Led) : Prop
  | mk (nx' : Led) (j : LawJ cA cF ns B m nx') (off : OwnOff own (nx'.map (·.1))) (e : nx = nx' ++ own) (hy : ∃ t, m (Str.ofString "y") = some (.int y t))
theorem ownOff_of {own nx : Led} (h : ∀ q ∈ nx, ∀ p ∈ own, p.1 ≠ q.1) : OwnOff own (nx.map (·.1)) := by
  intro p hp b hb
  obtain ⟨q, hq, rfl⟩ := List.mem_map.mp hb
  exact h q hq p hp
theorem ownOff_at {own nx : Led} (h : OwnOff own (nx.map (·.1))) : ∀ q ∈ nx, ∀ p ∈ own, p.1 ≠ q.1 := fun q hq p hp => h p hp q.1 (List.mem_map_of_mem hq)
theorem ite_beq_ne {a b : Int} {x y : Prop} (h : a ≠ b) (hy : y) : if (a == b) = true then x else y := by
  rw [if_neg (by simpa using h)]; exact hy
theorem ite_beq_eq {a b : Int} {x y : Prop} (h : a = b) (hx : x) : if (a == b) = true then x else y := by
  rw [if_pos (by simpa using h)]; exact hx
section
variable {cA cF dx sl : Addr} {oA oF oD oS oA' oF' oD' oS' : Obj} {rest new own : Led}
theorem Sep.grow (S : Sep cA cF dx sl rest) (h : ∀ p ∈ new, p.1 ≠ cA ∧ p.1 ≠ cF ∧ p.1 ≠ dx ∧ p.1 ≠ sl) : Sep cA cF dx sl (new ++ rest) := by
  obtain ⟨n1, n2, n3, n4, n5, n6, rA, rF, rD, rS⟩ := S
  exact ⟨n1, n2, n3, n4, n5, n6, List.forall_mem_append.mpr ⟨fun p hp => (h p hp).1, rA⟩, List.forall_mem_append.mpr ⟨fun p hp => (h p hp).2.1, rF⟩, List.forall_mem_append.mpr ⟨fun p hp => (h p hp).2.2.1, rD⟩, List.forall_mem_append.mpr ⟨fun p hp => (h p hp).2.2.2, rS⟩⟩
theorem off_grow (O : OwnOff own (((cA, oA) :: (cF, oF) :: (dx, oD) :: (sl, oS) :: rest : Led).map (·.1))) (h : ∀ p ∈ new, ∀ q ∈ own, q.1 ≠ p.1) : OwnOff own (((cA, oA') :: (cF, oF') :: (dx, oD') :: (sl, oS') :: (new ++ rest) : Led).map (·.1)) := by
  intro p hp b hb
  simp only [List.map_cons, List.map_append, List.mem_cons, List.mem_append] at hb
  rcases hb with e | e | e | e | e | e
  · exact O p hp b (by simp [e])
  · exact O p hp b (by simp [e])
  · exact O p hp b (by simp [e])
  · exact O p hp b (by simp [e])
  · obtain ⟨q, hq, rfl⟩ := List.mem_map.mp e
    exact h q hq p hp
  · exact O p hp b (by simp only [List.map_cons, List.mem_cons]; exact .inr (.inr (.inr (.inr e))))
end
theorem LawL.up {ns : List Int} {hs : List St} {disk : List Rw} {cur : St} {nm dl nl lg dx : Addr} {snv : Value} {o : Obj} {svs : List Value} {rest rest' : Led} (h : LawL ns hs disk cur nm dl nl lg dx snv o svs rest) (k : ∀ p ∈ rest, p ∈ rest') : LawL ns hs disk cur nm dl nl lg dx snv o svs rest' := by
  obtain ⟨⟨sv, el, vs, n, a1, a2, a3, a4⟩, b, ⟨v1, n1, c1, c2⟩, ⟨v2, n2, d1, d2⟩, e, f, ⟨v3, n3, g1, g2⟩⟩ := h
  exact ⟨⟨sv, el, vs, n, a1, k _ a2, a3.up k, a4.up k⟩, k _ b, ⟨v1, n1, k _ c1, datAll_up c2 k⟩, ⟨v2, n2, k _ d1, datAll_up d2 k⟩, datIn_up e k, f.up k, ⟨v3, n3, k _ g1, g2⟩⟩
theorem LawL.saved {ns : List Int} {hs : List St} {disk : List Rw} {cur : St} {nm dl nl lg dx : Addr} {snv v : Value} {o : Obj} {svs : List Value} {rest : Led} (h : LawL ns hs disk cur nm dl nl lg dx snv o svs rest) (hn : hs ≠ []) (k : SaveAt rest v cur) : LawL ns (hs ++ [cur]) disk cur nm dl nl lg dx snv o (svs ++ [v]) rest := by
  obtain ⟨a, b, c, d, e, f, g⟩ := h
  refine ⟨a, b, c, d, e, ?_, g⟩
  cases hs with
  | nil => exact absurd rfl hn
  | cons x xs => exact f.snoc k
theorem Inv.tellsIff {B : Int} {hs : List St} {w j p : Nat} {disk : List Rw} {cur a : St} {r : Rw} {S : Option Sn} (h : Inv B hs w disk cur) (hj : hs[j]? = some a) (hp : a.now[p]? = some r) :
    (cur.bs + cur.told ≤ r.i ∧ termAt (cur.now.drop cur.told) (cur.bs + cur.told) S r.i = some r.t) ↔ r ∈ cur.now.drop cur.told := by
  have hq := h.here
  have ht := hq.told2
  constructor
  · rintro ⟨h1, h2⟩
    unfold termAt at h2
    rw [if_neg (by omega)] at h2
    split at h2
    · cases h2
    · cases e : (cur.now.drop cur.told)[(r.i - (cur.bs + cur.told)).toNat]? with
      | none => rw [e] at h2; cases h2
      | some q =>
        rw [e] at h2
        have ht' : q.t = r.t := Option.some.inj h2
        have hm := List.mem_of_getElem? e
        rw [List.getElem?_drop] at e
        have := hq.rows _ q e
        have hqr := h.found hj hp e (by omega) ht'
        rw [← hqr]; exact hm
  · intro hm
    obtain ⟨k, hk⟩ := List.getElem?_of_mem hm
    have hk' := hk
    rw [List.getElem?_drop] at hk'
    have := hq.rows _ r hk'
    have hkl := (List.getElem?_eq_some_iff.mp hk').1
    refine ⟨by omega, ?_⟩
    unfold termAt
    rw [if_neg (by omega), if_neg (by rw [List.length_drop]; omega), show (r.i - (cur.bs + cur.told)).toNat = k by omega, hk]
    rfl
theorem LawJ.cutp {cA cF nm dl nl lg dx el sl : Addr} {oA oF o : Obj} {tF : Tok} {va : Option Value} {ns : List Int} {m : Str → Option Value} {dvs vsN : List Value} {nD nN : Nat} {rest : Led} {disk : List Rw} {bs fr off B : Int}
    (I : Inv B [⟨disk, disk.length, bs, none, fr⟩] 0 disk ⟨disk, disk.length, bs, none, fr⟩) (hB : 1 ≤ B) (M : LawM nm dl nl lg sl (disk.length : Int) 0 .none m) (ld : LogD o .none el off) (ho : off = bs + disk.length)
    (md : (dl, listOf dvs.toArray nD) ∈ rest) (hdk : DatAll rest dvs (disk.map Rw.dat)) (mN : (nm, listOf vsN.toArray nN) ∈ rest) (hN : IntsAre vsN ns)
    (S : Sep cA cF dx sl ([(nl, listOf dvs.toArray 0), (el, listOf ([] : List Value).toArray 0), (lg, instObj 138 dx)] ++ rest)) (hF : oF.data = .cell (some (.int fr tF))) (hA : oA.data = .cell va) :
    LawJ cA cF ns B m ((cA, oA) :: (cF, oF) :: (dx, o) :: (sl, listOf ([] : List Value).toArray 0) :: ([(nl, listOf dvs.toArray 0), (el, listOf ([] : List Value).toArray 0), (lg, instObj 138 dx)] ++ rest)) := by
  refine ⟨[⟨disk, disk.length, bs, none, fr⟩], 0, disk, ⟨disk, disk.length, bs, none, fr⟩, nm, dl, nl, lg, sl, dx, .none, o, oA, oF, tF, va, [], 0, _, ⟨I, by show (1 : Int) ≤ B; exact hB⟩, M, ⟨⟨.none, el, [], 0, ?_, ?_, ?_, rfl⟩, ?_, ⟨dvs, 0, ?_, datAll_up hdk led_right⟩, ⟨dvs, nD, led_right _ md, datAll_up hdk led_right⟩, .none, .nil, ⟨vsN, nN, led_right _ mN, hN⟩⟩, S, hF, hA, rfl⟩
  · show LogD o .none el (bs + (disk.length : Int))
    rw [← ho]; exact ld
  · exact .tail _ (.head _)
  · show EntAll _ [] (disk.drop disk.length)
    rw [List.drop_length]; exact .nil
  · exact .tail _ (.tail _ (.head _))
  · exact .head _
/-- what holds at the law's cuts -/
inductive PNums (cA cF : Addr) (oA oB : Obj) (m : Str → Option Value) (nx : Led) : Prop
  | mk (nm : Addr) (c : Nat) (vs : List Value) (ns : List Int) (e1 : m (Str.ofString "nums") = some (.ref nm)) (e : nx = [(nm, listOf vs.toArray c), (cA, oA), (cF, oB)]) (h : IntsAre vs ns) (h1 : 0 < ns.length) (h2 : ns.length ≤ 10) (h3 : ∀ x ∈ ns, 0 ≤ x ∧ x < 999983)
inductive PDisk0 (cA cF nm : Addr) (oA oB : Obj) (vsN : List Value) (cN : Nat) (m : Str → Option Value) (nx : Led) : Prop
  | mk (first : Int) (tf : Tok) (dl : Addr) (ys : List Value) (tl : Led) (f1 : 1 ≤ first) (f2 : first ≤ 3) (e1 : m (Str.ofString "nums") = some (.ref nm)) (e2 : m (Str.ofString "first") = some (.int first tf)) (e3 : m (Str.ofString "disk") = some (.ref dl))
    (e : nx = (cA, oA) :: (cF, oB) :: (dl, listOf ys.toArray ys.length) :: (nm, listOf vsN.toArray cN) :: tl) (hys : DatAll tl ys ((rowsFrom first.toNat).map Rw.dat)) (s1 : ∀ p ∈ tl, p.1 ≠ cA) (s2 : ∀ p ∈ tl, p.1 ≠ cF) (n1 : @Ne Nat dl cA) (n2 : @Ne Nat dl cF)
inductive PTurn (cA cF dx sl nm dl nl lg : Addr) (cur : St) (w : Nat) (snv : Value) (oA oF o : Obj) (svs : List Value) (sc : Nat) (R : Led) (m : Str → Option Value) (nx : Led) : Prop
  | mk (way y : Int) (tw ty tb tl : Tok) (y1 : 0 ≤ way) (y2 : way < 8) (y3 : 0 ≤ y) (y4 : y < 300000) (hM : LawM nm dl nl lg sl cur.told w snv m) (v1 : m (Str.ofString "way") = some (.int way tw)) (v2 : m (Str.ofString "y") = some (.int y ty))
    (v3 : m (Str.ofString "base") = some (.int cur.bs tb)) (v4 : m (Str.ofString "last") = some (.int (cur.bs + cur.now.length - 1) tl)) (e : nx = (cA, oA) :: (cF, oF) :: (dx, o) :: (sl, listOf svs.toArray sc) :: R)
inductive PAfter (cA cF dx sl nm dl nl lg : Addr) (cur : St) (w : Nat) (snv : Value) (o : Obj) (svs : List Value) (sc : Nat) (R : Led) (y : Int) (ty tb tla : Tok) (m : Str → Option Value) (nx : Led) : Prop
  | mk (af : Int) (cnt : Nat) (oA2 oF2 : Obj) (ta tf2 tc : Tok) (hA : oA2.data = .cell (some (.int af ta))) (hF : oF2.data = .cell (some (.int (cur.fresh + 1) tf2))) (a1 : cur.bs + 1 ≤ af) (a2 : af ≤ cur.bs + cur.now.length + 1) (a3 : cnt ≤ 3)
    (hM : LawM nm dl nl lg sl cur.told w snv m) (v2 : m (Str.ofString "y") = some (.int y ty)) (v3 : m (Str.ofString "base") = some (.int cur.bs tb)) (v4 : m (Str.ofString "last") = some (.int (cur.bs + cur.now.length - 1) tla)) (v5 : m (Str.ofString "count") = some (.int (cnt : Int) tc))
    (e : nx = (cA, oA2) :: (cF, oF2) :: (dx, o) :: (sl, listOf svs.toArray sc) :: R)
inductive PRows (cA cF dx sl nm dl nl lg : Addr) (cur : St) (w : Nat) (snv : Value) (oA oF o : Obj) (svs : List Value) (sc : Nat) (rest own : Led) (y : Int) (ty tb tla tc : Tok) (cnt : Nat) (af : Int) (m : Str → Option Value) (nx : Led) : Prop
  | mk (rl : Addr) (ys : List Value) (rs : List Rw) (new : Led) (hrl : rs.length = cnt) (hrn : RowsNew rs af (cur.fresh + 1)) (hyr : DatAll new ys (rs.map Rw.dat)) (mrl : (rl, listOf ys.toArray ys.length) ∈ new)
    (s1 : ∀ p ∈ new, p.1 ≠ cA ∧ p.1 ≠ cF ∧ p.1 ≠ dx ∧ p.1 ≠ sl) (s2 : ∀ p ∈ new, ∀ q ∈ own, q.1 ≠ p.1) (s3 : ∀ p ∈ new, ∀ q ∈ rest, q.1 ≠ p.1)
    (hM : LawM nm dl nl lg sl cur.told w snv m) (v2 : m (Str.ofString "y") = some (.int y ty)) (v3 : m (Str.ofString "base") = some (.int cur.bs tb)) (v4 : m (Str.ofString "last") = some (.int (cur.bs + cur.now.length - 1) tla)) (v5 : m (Str.ofString "count") = some (.int (cnt : Int) tc)) (v6 : m (Str.ofString "rows") = some (.ref rl))
    (e : nx = (cA, oA) :: (cF, oF) :: (dx, o) :: (sl, listOf svs.toArray sc) :: (new ++ (rest ++ own)))
inductive PEnts (cA cF dx sl nm dl nl lg rl : Addr) (cur : St) (w : Nat) (snv : Value) (oA oF o : Obj) (svs : List Value) (sc : Nat) (rest own new : Led) (y : Int) (ty tb tla tc : Tok) (cnt : Nat) (rs : List Rw) (m : Str → Option Value) (nx : Led) : Prop
  | mk (en : Addr) (es : List Value) (new2 : Led) (hes : EntAll new2 es rs) (s1 : ∀ p ∈ new2, p.1 ≠ cA ∧ p.1 ≠ cF ∧ p.1 ≠ dx ∧ p.1 ≠ sl) (s2 : ∀ p ∈ new2, ∀ q ∈ own, q.1 ≠ p.1)
    (hM : LawM nm dl nl lg sl cur.told w snv m) (v2 : m (Str.ofString "y") = some (.int y ty)) (v3 : m (Str.ofString "base") = some (.int cur.bs tb)) (v4 : m (Str.ofString "last") = some (.int (cur.bs + cur.now.length - 1) tla)) (v5 : m (Str.ofString "count") = some (.int (cnt : Int) tc)) (v6 : m (Str.ofString "rows") = some (.ref rl)) (v7 : m (Str.ofString "entries") = some (.ref en))
    (hen : ∀ p ∈ ((cA, oA) :: (cF, oF) :: (dx, o) :: (sl, listOf svs.toArray sc) :: (new2 ++ (new ++ (rest ++ own))) : Led), p.1 ≠ en)
    (e : nx = (en, listOf es.toArray es.length) :: (cA, oA) :: (cF, oF) :: (dx, o) :: (sl, listOf svs.toArray sc) :: (new2 ++ (new ++ (rest ++ own))))
inductive PTaken (cA cF dx sl nm dl nl lg rl en : Addr) (cur nxt : St) (w : Nat) (snv sv : Value) (oA oF : Obj) (svs es : List Value) (sc : Nat) (rest own new : Led) (y : Int) (ty tb tla tc : Tok) (cnt : Nat) (taken : Bool) (m : Str → Option Value) (nx : Led) : Prop
  | mk (R3 : Led) (o3 : Obj) (el3 : Addr) (vs3 : List Value) (n3 : Nat) (up3 : ∀ p ∈ rest, p ∈ R3) (up4 : ∀ p ∈ new, p ∈ R3) (sep : Sep cA cF dx sl R3) (off : ∀ p ∈ R3, ∀ q ∈ own, q.1 ≠ p.1)
    (ld : LogD o3 sv el3 (nxt.bs + nxt.told)) (me : (el3, listOf vs3.toArray n3) ∈ R3) (ae : EntAll R3 vs3 (nxt.now.drop nxt.told))
    (hM : LawM nm dl nl lg sl cur.told w snv m) (v2 : m (Str.ofString "y") = some (.int y ty)) (v3 : m (Str.ofString "base") = some (.int cur.bs tb)) (v4 : m (Str.ofString "last") = some (.int (cur.bs + cur.now.length - 1) tla)) (v5 : m (Str.ofString "count") = some (.int (cnt : Int) tc)) (v6 : m (Str.ofString "rows") = some (.ref rl)) (v7 : m (Str.ofString "entries") = some (.ref en))
    (v8 : m (Str.ofString "taken") = some (.bool taken)) (hen : ∀ p ∈ ((cA, oA) :: (cF, oF) :: (dx, o3) :: (sl, listOf svs.toArray sc) :: (R3 ++ own) : Led), p.1 ≠ en)
    (e : nx = (en, listOf es.toArray es.length) :: (cA, oA) :: (cF, oF) :: (dx, o3) :: (sl, listOf svs.toArray sc) :: (R3 ++ own))
inductive PSave (cA cF dx sl nm dl nl lg : Addr) (hs : List St) (cur : St) (w : Nat) (snv : Value) (oA oF o : Obj) (svs : List Value) (sc : Nat) (rest own : Led) (y : Int) (ty : Tok) (m : Str → Option Value) (nx : Led) : Prop
  | mk (b : St) (out rws : Addr) (mk : Value) (vo ys : List Value) (n92 n93 : Nat) (hb : hs[w + 1]? = some b) (mO : (out, listOf vo.toArray n92) ∈ rest) (aO : EntAll rest vo (b.now.drop b.told)) (mR : (rws, listOf ys.toArray n93) ∈ rest) (aR : DatAll rest ys ((b.now.drop b.told).map Rw.dat)) (dM : DatIn rest mk (optDat b.snap))
    (hM : LawM nm dl nl lg sl cur.told w snv m) (v2 : m (Str.ofString "y") = some (.int y ty)) (u0 : m (Str.ofString "out") = some (.ref out)) (u1 : m (Str.ofString "rows") = some (.ref rws)) (u2 : m (Str.ofString "mark") = some mk)
    (e : nx = (cA, oA) :: (cF, oF) :: (dx, o) :: (sl, listOf svs.toArray sc) :: (rest ++ own))
inductive PDisk (cA cF dx sl nm nl lg rws : Addr) (cur b : St) (w : Nat) (snv : Value) (oA oF o : Obj) (svs : List Value) (sc : Nat) (rest own : Led) (y : Int) (ty : Tok) (m : Str → Option Value) (nx : Led) : Prop
  | mk (R2 : Led) (dl2 : Addr) (disk2 : List Rw) (dvs2 : List Value) (n3 : Nat) (up2 : ∀ p ∈ rest, p ∈ R2) (sep : Sep cA cF dx sl R2) (off : OwnOff own (((cA, oA) :: (cF, oF) :: (dx, o) :: (sl, listOf svs.toArray sc) :: R2 : Led).map (·.1)))
    (md : (dl2, listOf dvs2.toArray n3) ∈ R2) (hd : DatAll R2 dvs2 (disk2.map Rw.dat)) (hr : RowsOk disk2 b.bs) (k1 : b.told ≤ disk2.length) (k2 : disk2.length < 100) (k3 : 0 < disk2.length) (k4 : disk2.take b.told = b.now.take b.told) (k5 : b.told = b.now.length → disk2 = b.now)
    (hM : LawM nm dl2 nl lg sl cur.told (w + 1) snv m) (v2 : m (Str.ofString "y") = some (.int y ty)) (u1 : m (Str.ofString "rows") = some (.ref rws))
    (e : nx = (cA, oA) :: (cF, oF) :: (dx, o) :: (sl, listOf svs.toArray sc) :: (R2 ++ own))
inductive PTold (cA cF dx sl nm dl nl lg : Addr) (hs : List St) (cur : St) (w : Nat) (snv : Value) (oA oF o : Obj) (svs : List Value) (sc : Nat) (rest own : Led) (y : Int) (ty tb : Tok) (m : Str → Option Value) (nx : Led) : Prop
  | mk (b : St) (j : Nat) (rws : Addr) (mk : Value) (ys : List Value) (n93 : Nat) (hb : hs[j]? = some b) (hj : j ≤ w) (mR : (rws, listOf ys.toArray n93) ∈ rest) (aR : DatAll rest ys ((b.now.drop b.told).map Rw.dat)) (dM : DatIn rest mk (optDat b.snap))
    (hM : LawM nm dl nl lg sl cur.told w snv m) (v2 : m (Str.ofString "y") = some (.int y ty)) (v3 : m (Str.ofString "base") = some (.int cur.bs tb)) (u1 : m (Str.ofString "rows") = some (.ref rws)) (u2 : m (Str.ofString "mark") = some mk)
    (e : nx = (dx, o) :: (cA, oA) :: (cF, oF) :: (sl, listOf svs.toArray sc) :: (rest ++ own))
inductive PSnap (cA cF dx sl nm dl nl lg el rws : Addr) (B : Int) (hs : List St) (disk : List Rw) (cur : St) (w : Nat) (oA oF : Obj) (svs : List Value) (sc : Nat) (rest own : Led) (y : Int) (ty tb : Tok) (m : Str → Option Value) (nx : Led) : Prop
  | mk (S' : Option Sn) (sv' snv' : Value) (o2 : Obj) (inv : Inv B hs w disk { cur with snap := S' }) (ld : LogD o2 sv' el (cur.bs + cur.told)) (aS : SnapIn rest sv' S') (hS : DatIn rest snv' (optDat S'))
    (hM : LawM nm dl nl lg sl cur.told w snv' m) (v2 : m (Str.ofString "y") = some (.int y ty)) (v3 : m (Str.ofString "base") = some (.int cur.bs tb)) (u1 : m (Str.ofString "rows") = some (.ref rws))
    (e : nx = (dx, o2) :: (cA, oA) :: (cF, oF) :: (sl, listOf svs.toArray sc) :: (rest ++ own))
/-- a test's end: it answers b, and only the toks have moved -/
def TestIs (b : Bool) (S : Nat → Shared) (v : Bool) (s' : Shared) : Prop := v = b ∧ ∃ tk, s' = S tk
section
variable {M : Model} {A : Around} {env : Env} {E : Value → Shared → Prop} {S : Nat → Shared}
theorem elif_no {t : PySem.Expr} {b e : List Stmt} {pos : Pos} {Q : Flow → Shared → Prop} (ht : ∀ tk, wpAny M A (isTrue t env (eval t env)) (TestIs false S) E (S tk)) (k : ∀ tk, wpAny M A (execs e env) Q E (S tk)) :
    ∀ tk, wpAny M A (exec (.If t b e pos) env) Q E (S tk) := fun tk => wpAny_If (wpAny_mono (ht tk) (fun v s' h => by obtain ⟨rfl, tk', rfl⟩ := h; exact k tk') fun _ _ h => h)
theorem elif_yes {t : PySem.Expr} {b e : List Stmt} {pos : Pos} {Q : Flow → Shared → Prop} (ht : ∀ tk, wpAny M A (isTrue t env (eval t env)) (TestIs true S) E (S tk)) (k : ∀ tk, wpAny M A (execs b env) Q E (S tk)) :
    ∀ tk, wpAny M A (exec (.If t b e pos) env) Q E (S tk) := fun tk => wpAny_If (wpAny_mono (ht tk) (fun v s' h => by obtain ⟨rfl, tk', rfl⟩ := h; exact k tk') fun _ _ h => h)
theorem execs_S {st : Stmt} {rest : List Stmt} {Q : Flow → Shared → Prop} (k : ∀ tk, wpAny M A (exec st env) (fun f s' => match f with | .next => wpAny M A (execs rest env) Q E s' | f => Q f s') E (S tk)) :
    ∀ tk, wpAny M A (execs (st :: rest) env) Q E (S tk) := fun tk => wpAny_execs_cons (k tk)
end

end
section
theorem reg_J_law : True := by
  k_with_none
  k_with "som" => ((try simp only [List.length_append, List.length_take, List.length_drop, List.length_cons, List.length_nil]); omega)
  k_with "mem9" => first | with_reducible exact List.mem_cons_self | (with_reducible refine List.mem_cons_of_mem _ ?_; walk_at "mem9") | (with_reducible refine List.mem_append_left _ ?_; walk_at "mem9") | (with_reducible refine List.mem_append_right _ ?_; walk_at "mem9") | with_reducible assumption
  k_with "q9" => first | with_reducible exact sub_refl | (with_reducible refine sub_tail ?_; walk_at "q9") | (with_reducible refine sub_left ?_; walk_at "q9") | (with_reducible refine sub_right ?_; walk_at "q9") | with_reducible assumption
  k_with "p9" => first | with_reducible exact sub_nil | (with_reducible refine sub_cons ?_ ?_; walk_at "mem9"; walk_at "p9") | (with_reducible refine sub_app ?_ ?_; walk_at "p9"; walk_at "p9") | walk_at "q9"
  k_with "L call builtin:len" => (k_here; (with_reducible show wpAny _ _ (call (Value.builtin "len") [Value.ref _]) _ _ _); k_dflt (refine led_len (by k_asm) (by k_mem) (by walk_at "som") ?_; k_whole))
  k_with "L subscriptTail" => ((k_here; (with_reducible show wpAny _ _ (subscriptTail _ _ (Value.ref _) (Value.int _ _)) _ _ _); k_dflt (refine led_item (by k_asm) (by k_mem) (by omega) (by walk_at "som") (by walk_at "som") (by with_unfolding_all rfl) ?_; k_whole)); first | walk_at "it" | (intro _ _))
  k_with "L subscriptTail" => ((k_here; (with_reducible show wpAny _ _ (subscriptTail _ (PySem.Expr.Slice _ _ none _) (Value.ref _) (Value.ref _)) _ _ _); k_dflt (refine led_slice (by k_asm) (by k_asm) (by k_mem) (by kmk_part) (by kmk_part) (by walk_at "som") (by with_unfolding_all rfl) (by kmk_pure) ?_; k_whole)); walk_at "al")
  k_with "L binaryOp Add" => ((k_here; (with_reducible show wpAny _ _ (binaryOp _ (Value.ref _) (Value.ref _)) _ _ _); k_dflt (refine led_add (by k_asm) (by k_asm) (by k_mem) (by k_mem) (by walk_at "som") (by walk_at "som") ?_; k_whole)); walk_at "al")
  k_with "L binaryOp Add ref ref" => ((k_here; (with_reducible show wpAny _ _ (binaryOp _ (Value.ref _) (Value.ref _)) _ _ _); k_dflt (refine led_add (by k_asm) (by k_asm) (by k_mem) (by k_mem) (by walk_at "som") (by walk_at "som") ?_; k_whole)); walk_at "al")
  k_with "L call builtin:list.append" => ((with_reducible show wpAny _ _ (call (Value.builtin _) ([_] ++ _)) _ _ _); dsimp only [List.cons_append, List.nil_append])
  k_with "L call type:tuple" => ((k_here; (with_reducible show wpAny _ _ (call (Value.type "tuple") [Value.ref _]) _ _ _); k_dflt (refine kde_tupleOf (by k_asm) (by k_asm) (by exact led_isList (by assumption) (by k_mem)) (by (simp only [List.size_toArray, List.length_drop, List.length_take]; omega)) (by exact List.toList_toArray ..) ?_)); intro _ _ _ _ _; (try k_fold))
  k_with "look9" => ((try dsimp only); first | rfl | (refine look_skip (by decide) ?_; walk_at "look9") | (refine (if_neg (by decide)).trans ?_; walk_at "look9"))
  k_with "L subscriptTail Name Slice ref ref" => ((k_here; (with_reducible show wpAny _ _ (subscriptTail _ (PySem.Expr.Slice _ _ none _) (Value.ref _) (Value.ref _)) _ _ _); k_dflt (refine led_slice (by k_asm) (by k_asm) (by k_mem) (by kmk_part) (by kmk_part) (by walk_at "som") (by with_unfolding_all rfl) (by kmk_pure) ?_; k_whole)); walk_at "al2")
  k_with "L subscriptTail" => ((k_here; (with_reducible show wpAny _ _ (subscriptTail _ _ (Value.ref _) (Value.int _ _)) _ _ _); k_dflt (first | (refine led_item (by k_asm) (by k_mem) (by omega) (by walk_at "som") (by walk_at "som") (by with_unfolding_all rfl) ?_; k_whole) | (refine led_item_neg (by k_asm) (by k_mem) (by omega) (by walk_at "som") (by walk_at "som") (by with_unfolding_all rfl) ?_; k_whole))); walk_at "it")
  k_with "L call ref" => ((k_here; (with_reducible show wpAny _ _ (call (Value.ref 294) _) _ _ _); k_dflt (refine ro0_use (c_tells (by assumption)) (by k_asm) (by k_asm) (by k_asm) (by k_asm) (by k_asm) (by first | exact rfl | assumption) (by k_asm) (by k_asm) (by assumption) (by ktr_room) (by ktr_units) ?_)); rintro _ _ _ _ _ _ _ rfl; (try k_fold))
  k_with "L call ref" => ((k_here; (with_reducible show wpAny _ _ (call (Value.ref 128) _) _ _ _); k_dflt (refine rd_use c_part (by k_asm) (by k_asm) (by k_asm) (by k_asm) (by k_asm) (by first | exact rfl | assumption) (by exact ⟨⟨_, _, _, _, _, _, _, by k_mem, by k_mem⟩, by k_mem, by omega, by omega, by omega, by omega, by omega, by omega⟩) (by ktr_room) (by ktr_units) ?_)); rintro _ _ _ _ _ _ _ ⟨_, rfl, _⟩; walk_at "nz")
  k_with "L call ref" => ((k_here; (with_reducible show wpAny _ _ (call (Value.ref 107) _) _ _ _); k_dflt (refine mu_use (c_snapto (by assumption)) (by k_asm) (by k_asm) (by k_asm) (by k_asm) (by k_all) (by k_asm) (by first | exact rfl | assumption) (by exact ⟨by k_mem, SnapIn.up (by assumption) (by walk_at "p9"), by omega, by omega⟩) (by ktr_room) (by ktr_units) ?_)); rintro _ _ _ _ _ _ _ - ⟨rfl, rfl, _⟩; walk_at "nz")
  k_with "L call ref" => ((k_here; (with_reducible show wpAny _ _ (call (Value.ref 100) _) _ _ _); k_dflt (refine mu_use (c_stable (by assumption)) (by k_asm) (by k_asm) (by k_asm) (by k_asm) (by k_all) (by k_asm) (by first | exact rfl | assumption) (by exact ⟨by k_mem, by k_mem, EntAll.up (by assumption) (by walk_at "p9"), SnapIn.up (by assumption) (by walk_at "p9"), by omega, by omega, by omega, by omega, by omega⟩) (by ktr_room) (by ktr_units) ?_)); rintro _ _ _ _ _ _ _ _ ⟨rfl, _⟩; walk_at "nz")
  k_with "L call ref" => ((k_here; (with_reducible show wpAny _ _ (call (Value.ref 229) _) _ _ _); k_dflt (refine rd_use c_conf (by k_asm) (by k_asm) (by k_asm) (by k_asm) (by k_asm) (by first | exact rfl | assumption) (by exact ⟨by k_mem, by k_mem, by k_mem, by k_mem⟩) (by ktr_room) (by ktr_units) ?_)); rintro _ _ _ _ _ _ _ ⟨_, rfl, _⟩; walk_at "nz")
  k_with "L call ref" => ((k_here; (with_reducible show wpAny _ _ (call (Value.ref 282) _) _ _ _); k_dflt (refine rd_use c_draw (by k_asm) (by k_asm) (by k_asm) (by k_asm) (by k_asm) (by first | exact rfl | assumption) (by exact ⟨by k_mem, by assumption, by omega, by omega, by assumption, by omega, by omega⟩) (by ktr_room) (by ktr_units) ?_)); rintro _ _ _ _ _ _ - ⟨rfl, _, _, rfl, _, _⟩; walk_at "nz")
  k_with "L call ref" => ((k_here; (with_reducible show wpAny _ _ (call (Value.ref 138) _) _ _ _); k_dflt (refine rd_use c_unst (by k_asm) (by k_asm) (by k_asm) (by k_asm) (by k_asm) (by first | exact rfl | assumption) (by exact trivial) (by ktr_room) (by ktr_units) ?_)); rintro _ _ _ _ _ _ _ ⟨_, _, _, _, rfl, _, _, _, _, _, _⟩; walk_at "nz")
  k_with "L call ref" => ((k_here; (with_reducible show wpAny _ _ (call (Value.ref 271) _) _ _ _); k_dflt (refine rd_use c_snap (by k_asm) (by k_asm) (by k_asm) (by k_asm) (by k_asm) (by first | exact rfl | assumption) (by exact trivial) (by ktr_room) (by ktr_units) ?_)); rintro _ _ _ _ _ _ _ ⟨_, rfl, _⟩; walk_at "nz")
  k_with "L call ref" => ((k_here; (with_reducible show wpAny _ _ (call (Value.ref 254) _) _ _ _); k_dflt (refine rd_use c_srow (by k_asm) (by k_asm) (by k_asm) (by k_asm) (by k_asm) (by first | exact rfl | assumption) (by exact SnapAt.mono' (by assumption) (by walk_at "p9")) (by ktr_room) (by ktr_units) ?_)); rintro _ _ _ _ _ _ _ ho9; obtain ⟨_, _, _, rfl, _, _⟩ := tupLit ho9; walk_at "nz")
  k_with "dat_all" => first | exact DatAll.nil | exact datAll_up (by assumption) (by walk_at "p9") | (refine DatAll.cons ?_ ?_; walk_at "dat_mk"; walk_at "dat_all")
  k_with "L compareOp NotEq ref ref" => (k_here; (with_reducible show wpAny _ _ (compareOp _ (Value.ref _) (Value.ref _)) _ _ _); k_dflt (refine dat_ne (n := 5) (by k_asm) (by walk_at "dat_x") (by walk_at "dat_mk") (by first | with_reducible exact datOk_rows5 _ | with_reducible exact datOk_log | exact datOk_log | exact datOk_rows5 _) (by ktr_units) ?_))
  k_with "dat_x" => first | exact datIn_up (by assumption) (by walk_at "p9") | exact DatIn.list (by first | walk_at "mem8" | k_mem) (datAll_up (by assumption) (by walk_at "p9"))
  k_with "L call ref" => ((k_here; (with_reducible show wpAny _ _ (call (Value.ref 287) _) _ _ _); k_dflt (refine ro_use c_rows (by k_asm) (by k_asm) (by k_asm) (by k_asm) (by k_asm) (by first | exact rfl | assumption) (by exact ⟨by k_mem, EntAll.up (by assumption) (by walk_at "p9"), by omega, by assumption⟩) (by ktr_room) (by ktr_units) ?_)); rintro _ _ _ _ _ _ _ ⟨_, _, rfl, _, _⟩; walk_at "nz")
  k_with "L call ref" => ((k_here; (with_reducible show wpAny _ _ (call (Value.ref 194) _) _ _ _); k_dflt (refine rd_use c_ent (by k_asm) (by k_asm) (by k_asm) (by k_asm) (by k_asm) (by first | exact rfl | assumption) (by exact trivial) (by ktr_room) (by ktr_units) ?_)); intro _ _ _ _ _ _ _ _; walk_at "nz")
  k_with "mem8" => first | with_reducible exact List.mem_cons_self | with_reducible assumption | (with_reducible refine List.mem_append.mpr (Or.inl ?_); walk_at "mem8") | (with_reducible refine List.mem_append.mpr (Or.inr ?_); walk_at "mem8") | (with_reducible refine List.mem_cons_of_mem _ ?_; walk_at "mem8")
  k_with "listitem" => (((with_reducible show wpAny _ _ (subscriptTail _ _ (Value.ref _) (Value.int _ _)) _ _ _); k_dflt (first | (refine led_item (by k_asm) (by walk_at "mem8") (by omega) (by walk_at "som") (by walk_at "som") (by with_unfolding_all rfl) ?_; k_whole) | (refine led_item_neg (by k_asm) (by walk_at "mem8") (by omega) (by walk_at "som") (by walk_at "som") (by with_unfolding_all rfl) ?_; k_whole))); first | walk_at "const" | walk_at "it")
  k_with "L call ref" => ((k_here; (with_reducible show wpAny _ _ (call (Value.ref 121) _) _ _ _); k_dflt (refine mu_use (c_trunc (by assumption)) (by k_asm) (by k_asm) (by k_asm) (by k_asm) (by assumption) (by k_asm) (by first | exact rfl | assumption) (by exact ⟨by k_mem, by k_mem, by k_mem, EntAll.up (by assumption) (by walk_at "p9"), by omega, by omega, by omega, by omega, by assumption⟩) (by ktr_room) (by ktr_units) ?_)); rintro _ _ _ _ _ _ _ _ ⟨rfl, _⟩; walk_at "nz")
  k_with "L call ref" => (k_here; (with_reducible show wpAny _ _ (call (Value.ref 114) _) _ _ _); refine held ?_)
  k_with "L ite" => first | (refine ite_beq_ne (by with_reducible assumption) ?_) | (refine ite_beq_eq (by with_reducible assumption) ?_)
  k_with "L execs cons" => ((with_reducible rename HoldMark => hMk8); (with_reducible show wpAny _ _ (execs (Stmt.Assign [Expr.Tuple _ _ _] _ _ :: _) _) _ _ _); clear hMk8; refine held ?_)
  k_with "L execs cons" => ((with_reducible rename HoldMark => hMk8); (with_reducible show wpAny _ _ (execs (Stmt.AugAssign _ _ _ _ :: _) _) _ _ _); clear hMk8; refine held ?_)
  k_with "L compareOp In ref ref" => (refine held ?_)
  k_with "L CompSrc" => ((with_reducible rename HoldMark => hMk8); refine held ?_)
  k_with "L pyIter ref" => ((with_reducible rename HoldMark => hMk8); refine held ?_)
  k_with "L subscriptTail Name Constant ref int" => first | walk_at "tupitem" | walk_at "listitem"
  k_with "L subscriptTail Name Name ref int" => walk_at "listitem"
  k_with "L subscriptTail Name BinOp ref int" => walk_at "listitem"
  k_with "L subscriptTail Name UnaryOp ref int" => walk_at "listitem"
  k_with "L subscriptTail Subscript Name Constant Constant ref int" => walk_at "tupitem"
  k_with "L subscriptTail Subscript Name UnaryOp Constant ref int" => walk_at "tupitem"
  k_with "L exec While Compare cons nil" => (refine held ?_)
  k_with "L exec Try" => ((with_reducible show wpAny _ _ (exec (Stmt.Try _ (_ :: _) _ [] _) _) _ _ _); refine wpAny_Try_except ?_)
  k_with "L call builtin:list.pop" => (k_here; k_dflt (refine led_pop (by k_asm) (by k_asm) (by assumption) (by omega) ?_); intro _ _ _)
  trivial
section
variable {prog : Program} {w : World} {A₀ : Around} {E : Value → Shared → Prop} {s' : Shared} {h₀ h : Heap} {L a e t C : Addr} {m : Str → Option Value} {name x : Str} {scope : Scope} {cd : Value} {cl : List (Str × Addr)}
  {vs bm : List Value} {b₀ : Stmt} {suite : List Stmt} {pos np : Pos} {rest : List ExceptHandler} {Q : Flow → Shared → Prop} {news : Led} {KF : Frag} {newId : String} {p : Program} {loose : List Str} {mean : ExcName → Option Value} {mg mb : Str → Option Value}
/-- an own exception that a called def raised, caught in the law's own frame (a frame with cells) -/
theorem caught_cells (K : Below A₀ h₀ [] h₀) (U : h.UpToSlots s'.heap) (F : Fr h₀ L h m) (R : RaisedK h₀ [envX name scope L a cd cl] e (.ref C) t vs news s'.heap) (X : KF.In h₀) (T : TopRead p loose mg mb h₀)
    (ex : nsIn KF mainGlobals x = some (some (.ref C))) (q : excIn KF C bm newId = true) (hb : bm.contains (.type "BaseException") = true)
    (go : ∀ h', Fr h₀ L h' m → News h₀ L h' news → wpAny (model prog w) ((A₀.deeper (envX name scope L a cd cl)).mark (some (.ref e))) (execs (b₀ :: suite) (envX name scope L a cd cl)) Q E { s' with heap := h' })
    (hE : PassesOwnAt (model prog w) ((A₀.deeper (envX name scope L a cd cl)).mark (some (.ref e))) (A₀.deeper (envX name scope L a cd cl)) (envX name scope L a cd cl) E)
    (hk : scope.kind = .function := by rfl) (hx : (envX name scope L a cd cl).kindOf x = some .globalImplicit := by rfl) (hd : (x == ("__debug__" : Str)) = false := by decide) :
    wpAny (model prog w) (A₀.deeper (envX name scope L a cd cl)) (noteFrame (.ref e) (envX name scope L a cd cl))
      (fun _ s₂ => wpAny (model prog w) (A₀.deeper (envX name scope L a cd cl)) (setFlight (.ref e) none) (fun _ s₃ =>
        wpAny (model prog w) (A₀.deeper (envX name scope L a cd cl)) (handleBy (.ref e) (envX name scope L a cd cl) (.ExceptHandler (some (.Name x np)) none (b₀ :: suite) pos :: rest)) Q E s₃) E s₂) E s' := by
  obtain ⟨⟨B, stB, inB, fly, _⟩, _⟩ := R
  have noL : B.get? L = none := by
    obtain ⟨_, ⟨_, _, hf, hn, _⟩, _⟩ := fly.2.2.1
    cases hf
    exact hn
  have newsAt : ∀ {g : Heap}, B.StaysIn g → News h₀ L g news := fun st q hq => by
    obtain ⟨h1, h2⟩ := inB q hq
    exact ⟨st _ _ h1, (fun z => by rw [z, noL] at h1; cases h1), h2⟩
  refine wpAny_looks_onW (Around.frames_deeper K.stack) rfl fly fun g1 held1 u1 => ?_
  refine wpAny_landsW held1 fun g2 held2 u2 => ?_
  have fly2 := flyingW_base stB held2
  have F2 := F.of_stays fly2.1 (U.trans (u1.trans u2))
  obtain ⟨ob, hob, hcls⟩ := fly2.there
  refine wpAny_handleBy_cons (codeAny_handlers_test (nameX_K F2 X T ex ?_ hk hx hd)) (fun z => nomatch z)
  obtain ⟨_, _, _, _, _, _, _, _, _, _, _, _, _, _, _, _, _, hC, _, _, TL⟩ := ((own_of_in X T ex q).keeps F2.keep).obj
  refine wpAny_excMatches_sub_self hC hob hcls (TL.hasType hb) (codeAny_handlers_suite ?_)
  refine lands_againW held2 fun g3 fly3 u3 => ?_
  have F3 := F.of_stays (flyingW_base stB fly3).1 ((U.trans (u1.trans u2)).trans u3)
  exact wpAny_passesOwnAt hE (go g3 F3 (newsAt fly3.1))
end
section
variable {prog : Program} {w : World} {A : Around} {E : Value → Shared → Prop} {s : Shared} {h₀ : Heap} {L : Addr} {news : Led} {Q : Value → Shared → Prop}
theorem row_item {value slice : PySem.Expr} {t : Addr} {r : Rw} {t1 t2 t3 t4 u : Tok} {n j : Nat} {k : Int} {x : Value} (N : News h₀ L s.heap news) (hm : (t, ({ cls := .type "tuple", data := .seq (rowVs r t1 t2 t3 t4).toArray n } : Obj)) ∈ news)
    (hj : seqIndex? k 4 = some j) (hx : (rowVs r t1 t2 t3 t4)[j]? = some x) (h0 : -(2 ^ 63) ≤ k) (h1 : k < 2 ^ 63)
    (hs : subscripted slice false (.ref t) (.int k u) = operate [.ref t, .int k u] (getItem (.ref t) (.int k u))) (h : Q x s) :
    wpAny (model prog w) A (subscriptTail value slice (.ref t) (.int k u)) Q E s :=
  item_tupleT (News.isTup N hm) h0 h1 hj hx h hs
end
theorem RowsNew.snoc {rs : List Rw} {r : Rw} {i f : Int} (h : RowsNew rs i f) (hi : r.i = i + rs.length) (ht : r.t = f) : RowsNew (rs ++ [r]) i f := by
  intro k q hq
  rw [List.getElem?_append] at hq
  split at hq
  · exact h k q hq
  · rw [List.getElem?_singleton] at hq
    split at hq
    · cases hq
      exact ⟨by omega, ht⟩
    · cases hq
theorem rows_snoc {base new : Led} {ys : List Value} {rs : List Rw} {T : Addr} {f x af : Int} {t1 t2 t3 t4 : Tok} {d : Array UInt8} {n i : Nat} (hys : DatAll new ys (rs.map Rw.dat)) (hrl : rs.length = i) (hrn : RowsNew rs af f) (hx : x = af + (i : Int))
    (hs : ∀ p ∈ new, ∀ q ∈ base, q.1 ≠ p.1) (hT : ∀ q ∈ base, @Ne Nat q.1 T) :
    ∃ (rs' : List Rw) (new' : Led), rs'.length = i + 1 ∧ RowsNew rs' af f ∧ DatAll new' (ys ++ [.ref T]) (rs'.map Rw.dat) ∧
      (T, ({ cls := .type "tuple", data := .seq #[Value.int f t1, .int x t2, .int 0 t3, .bytes d t4] n } : Obj)) :: (new ++ base) = new' ++ base ∧ (∀ p ∈ new', ∀ q ∈ base, q.1 ≠ p.1) := by
  refine ⟨rs ++ [⟨f, x, d⟩], (T, _) :: new, by rw [List.length_append, List.length_singleton, hrl], hrn.snoc (by rw [hrl]; exact hx) rfl, ?_, rfl, List.forall_mem_cons.mpr ⟨hT, hs⟩⟩
  rw [List.map_append]
  exact (datAll_up hys led_cons).append (.one (row_mk (n := n) (r := ⟨f, x, d⟩) List.mem_cons_self))
/-- the state behind a leader's rows at af -/
def appd (cur : St) (cnt : Nat) (af : Int) (rs : List Rw) : St := if cnt = 0 ∨ ¬ af ≤ cur.bs + cur.now.length then { cur with fresh := cur.fresh + 1 } else put cur (af - cur.bs).toNat rs
theorem put_drop {cur : St} {c : Nat} {rows : List Rw} (hc : c ≤ cur.now.length) : (put cur c rows).now.drop (put cur c rows).told = (cur.now.drop cur.told).take (c - cur.told) ++ rows := by
  show (cur.now.take c ++ rows).drop (min cur.told c) = _
  have lt : (cur.now.take c).length = c := by rw [List.length_take]; omega
  rw [List.drop_append, lt, show min cur.told c - c = 0 by omega, List.drop_zero, List.drop_take]
  by_cases h : cur.told ≤ c
  · rw [Nat.min_eq_left h]
  · rw [Nat.min_eq_right (by omega), Nat.sub_self, List.take_zero, show c - cur.told = 0 by omega, List.take_zero]
theorem appd_no {cur : St} {cnt : Nat} {af : Int} {rs : List Rw} (h : cnt = 0 ∨ ¬ af ≤ cur.bs + cur.now.length) : appd cur cnt af rs = { cur with fresh := cur.fresh + 1 } := if_pos h
theorem appd_yes {cur : St} {cnt : Nat} {af : Int} {rs : List Rw} (h : cnt ≠ 0) (h' : af ≤ cur.bs + cur.now.length) : appd cur cnt af rs = put cur (af - cur.bs).toNat rs := if_neg (fun x => x.elim h (fun y => y h'))
theorem front7 {h₀ h : Heap} {L : Addr} {a b c d e f g x : Addr × Obj} {l : Led} (N : News h₀ L h (a :: b :: c :: d :: e :: f :: g :: x :: l)) : News h₀ L h (x :: a :: b :: c :: d :: e :: f :: g :: l) := kst_newsOf N fun p hp => by
  simp only [List.mem_cons] at hp ⊢
  grind
section
variable {M : Model} {A : Around} {E : Value → Shared → Prop} {s : Shared} {h₀ : Heap} {L a : Addr} {m : Str → Option Value} {cn : Str} {cs : Scope} {ccd : Value} {cl : List (Str × Addr)} {x : Str} {v : Value} {Q : Value → Shared → Prop}
theorem loadX_M (F : Fr h₀ L s.heap m) (hv : m x = some v) (h : Q v s) (hk : cs.kind = .function := by rfl) (hx : (envX cn cs L a ccd cl).kindOf x = some .local := by rfl) :
    wpAny M A (loadName (envX cn cs L a ccd cl) x) Q E s := wpAny_loadName_local hk hx F.ns hv h
end
section
local macro_rules | `(tactic| walk_at "it") => `(tactic| (intro v9 hv9; (obtain ⟨b9, hb9, hs9⟩ := SavesAll.get (by assumption) hv9; clear hv9; obtain ⟨a9, out9, rws9, mk9, n91, vs9, n92, ys9, n93, e9, m91, m92, ae9, m93, ad9, dm9⟩ := hs9; subst e9)))
local macro_rules | `(tactic| walk_at "const") => `(tactic| (intro v9 hv9; simp only [Int.toNat_zero, List.getElem?_cons_zero, Option.some.injEq] at hv9; subst hv9))
local macro_rules | `(tactic| walk_at "tupitem") => `(tactic| ((with_reducible show wpAny _ _ (subscriptTail _ _ (Value.ref _) (Value.int _ _)) _ _ _); k_dflt (refine' item_tupleT ?t ?a ?b ?c ?d ?_ ?s; (case t => exact News.isTup (by k_asm) (by walk_at "mem9")); (case a => decide); (case b => decide); (case c => rfl); (case d => rfl); (case s => with_unfolding_all rfl); k_whole)))
local macro_rules | `(tactic| walk_at "eval Name") => `(tactic| ((with_reducible show wpAny _ _ (eval (Expr.Name _ _) (envOfC _ _ _ _ _)) _ _ _); k_dflt (refine' nameX_L ?F ?v ?_ ?a ?b ?c; (case b => exact rfl); (case F => k_asm); (case v => walk_at "look"); (case a => exact rfl); (case c => decide))))
local macro_rules | `(tactic| k_all) => `(tactic| (refine List.forall_mem_append.mpr ⟨?ka, ?kb⟩; (case ka => k_all); (case kb => k_all)))
local macro_rules | `(tactic| walk_at "loadName") => `(tactic| ((with_reducible show wpAny _ _ (loadName (envOfC _ _ _ _ _) _) _ _ _); k_dflt (refine' loadX_M ?F ?v ?_ ?a ?b; (case b => exact rfl); (case F => k_asm); (case v => walk_at "look"); (case a => exact rfl))))
local macro_rules | `(tactic| walk_at "noteFrame ref") => `(tactic| (k_here; (with_reducible rename RaisedK _ _ _ _ _ _ _ _ => rkX); k_dflt (refine' caught_cells (bm := [.type "Exception", .type "BaseException", .type "object"]) (newId := "Exception.__new__") ?K ?U ?F ?R ?X ?T ?ex ?q ?hb ?_ ?hE; (case K => assumption); (case U => assumption); (case F => assumption); (case R => exact rkX); (case X => k_asm); (case T => k_asm); (case ex => k_is); (case q => k_exc); (case hb => rfl); (case hE => passes_own); k_whole); intro h' F' N'; (try k_sweep)))
set_option maxHeartbeats 0 in
theorem law_walk : WalkO hd.view_1 [] (XL hd.view_1 []) (kHook hd.heap_1 lawAt (fun _ => by kernel_rfl)).says PySem.Challenge.rw_no0401_01.row.toRowW (recOf (rfl : defOf hd.view_1 PySem.Challenge.rw_no0401_01.row.name = some (_, []))) [] (fun f vs => PySem.call f vs) := by
  dsimp only [recOf]
  k_go0
  (all_goals try k_fold)
  rename_i w s0 s1 mg mb G Y fa o pm doc ho hg KX X V GL T B TE TW w11 w10 M w9 w8 hcd ns0 hsh hlay0 hL0 hr0 hl2 wl6 wl5 sa sv wl2 hLs ra w1 r0 hI hr hc63 hct K0 hD h1 tk1 F oA oB lA lB N0 X0
  have kMk := kstMark
  k_dflt (refine cut2 (s := s1) (h₀ := s1.heap) (L := s1.heap.objs.size) (P := PNums (s1.heap.objs.size + 1 + 1) (s1.heap.objs.size + 1) oA oB) (fun R Q c => ?_) ?_)
  · k_steps
    · dsimp only
      refine c _ _ _ _ ⟨_, 0, [_], [9], rfl, rfl, .cons _ _ .nil, by decide, by decide, fun x hx => ?_⟩ (by assumption) (kst_newsOf (by assumption) (by walk_at "p9"))
      rw [List.mem_singleton.mp hx]
      decide
    · dsimp only
      rename_i hne
      refine c _ _ _ _ ⟨_, _, _, _, rfl, rfl, by assumption, by omega, by rw [List.length_map, List.length_take]; omega, fun x hx => ?_⟩ (by assumption) (kst_newsOf (by assumption) (by walk_at "p9"))
      obtain ⟨y, _, rfl⟩ := List.mem_map.mp hx
      rw [Int.fmod_eq_emod_of_nonneg y (by decide)]
      exact ⟨Int.emod_nonneg _ (by decide), Int.emod_lt_of_pos _ (by decide)⟩
  rintro h9 tk9 m9 nx ⟨nm, cN, vsN, ns, e1, rfl, hN, hN1, hN2, hN3⟩ F9 N9
  clear N0 F
  have lenN := hN.length
  k_dflt (refine cut2 (s := s1) (h₀ := s1.heap) (L := s1.heap.objs.size) (P := PDisk0 (s1.heap.objs.size + 1 + 1) (s1.heap.objs.size + 1) nm oA oB vsN cN) (fun R Q c => ?_) ?_)
  · have hMk := holdMark
    k_steps
    unfold Held
    rename_i xd td hx1 hx2 h5 F5 N5 h6 tk6 t6 u6 v6 hr6 F6 N6 k6
    rename HoldMark => hMk7
    clear hMk7
    have q1 := Int.fmod_eq_emod_of_nonneg xd (show (0 : Int) ≤ 3 by decide)
    have q2 := Int.emod_nonneg xd (show (3 : Int) ≠ 0 by decide)
    have q3 := Int.emod_lt_of_pos xd (show (0 : Int) < 3 by decide)
    generalize hfi : 1 + xd.fmod 3 = first at *
    refine comp_range (n := first.toNat) (fun i ys nx => ∃ tl, nx = tl ++ [(nm, listOf vsN.toArray cN), (s1.heap.objs.size + 1 + 1, oA), (s1.heap.objs.size + 1, oB)] ∧ DatAll tl ys ((rowsFrom i).map Rw.dat) ∧ (∀ p ∈ tl, p.1 ≠ nm ∧ p.1 ≠ s1.heap.objs.size + 1 + 1 ∧ p.1 ≠ s1.heap.objs.size + 1)) (by exact rfl) F6 N6 hr6 (small_one (by omega) (by omega) (by omega) (by omega)) (by rw [rangeSize_nat]; omega) (by omega) ⟨[], rfl, .nil, fun _ h => nomatch h⟩ ?_ ?_
    · rintro g i t ys nx I oI C oC D m₂ h tk E' hi ⟨tl, rfl, hys, hsep⟩ hC hx F9 N9 off ne
      clear N5 N6
      k_steps
      rename_i T9 h8 F8 N8 l8
      have off3 := off.mem
      have lt8 := kst_ltOf l8.2.2.2
      refine LCg.CompEnd.intro F8 N8 ((T9, _) :: (tl ++ _)) led_rot (LCg.Off3.of ?_) trivial ⟨(T9, _) :: tl, rfl, ?_, ?_⟩
      · intro p hp
        rcases List.mem_cons.mp hp with rfl | hp
        · exact ⟨Nat.ne_of_gt l8.1, Nat.ne_of_gt l8.2.1, Nat.ne_of_gt l8.2.2.1⟩
        · exact off3 p hp
      · rw [rowsFrom_succ, List.map_append]
        refine (datAll_up hys led_cons).append (.one (.tuple (vs := [_, _, _, _]) (n := 0) List.mem_cons_self (.cons (.int _ _) (.cons ?_ (.cons (.int _ _) (.cons (.bytes _ _) .nil))))))
        exact datIn_int' (show (0 : Int) + (i : Int) = (i : Int) by omega)
      · intro p hp
        rcases List.mem_cons.mp hp with rfl | hp
        · exact ⟨fun e => Nat.lt_irrefl nm (by have := lt8 (nm, _) (by simp only [List.mem_append, List.mem_cons]; exact .inr (.inl rfl)); rw [← e] at this ⊢; exact this), fun e => Nat.lt_irrefl T9 (by have := lt8 (s1.heap.objs.size + 1 + 1, _) (by simp only [List.mem_append, List.mem_cons]; exact .inr (.inr (.inl rfl))); rw [← e] at this; exact this), fun e => Nat.lt_irrefl T9 (by have := lt8 (s1.heap.objs.size + 1, _) (by simp only [List.mem_append, List.mem_cons]; exact .inr (.inr (.inr (.inl rfl)))); rw [← e] at this; exact this)⟩
        · exact hsep p hp
    · rintro g ys nx ⟨tl, rfl, hys, hsep⟩ D h8 tk8 F8 N8 o8
      have ne8 := off1_ne o8
      k_steps
      dsimp only
      refine c _ _ _ _ ⟨first, _, D, ys, tl, by omega, by omega, by walk_at "look", by walk_at "look", rfl, rfl, hys, fun p hp => (hsep p hp).2.1, fun p hp => (hsep p hp).2.2, ?_, ?_⟩ F8 (kst_newsOf N8 (by walk_at "p9"))
      · exact fun e => ne8 (s1.heap.objs.size + 1 + 1, _) (by simp only [List.mem_append, List.mem_cons]; exact .inr (.inr (.inl rfl))) e.symm
      · exact fun e => ne8 (s1.heap.objs.size + 1, _) (by simp only [List.mem_append, List.mem_cons]; exact .inr (.inr (.inr (.inl rfl)))) e.symm
  clear e1 F9 N9
  rintro h9 tk9 m9 nx ⟨first, tf, dl, ys, tl, f1, f2, e1, e2, e3, rfl, hys, hs1, hs2, nd1, nd2⟩ F9 N9
  have lenY := hys.length
  rw [List.length_map, rowsFrom_len] at lenY
  have nm1 : @Ne Nat nm (s1.heap.objs.size + 1 + 1) := led_ne N9 (o := listOf vsN.toArray cN) (o' := oA) (by k_mem) (by k_mem) (fun e => by rw [lA] at e; cases e)
  have nm2 : @Ne Nat nm (s1.heap.objs.size + 1) := led_ne N9 (o := listOf vsN.toArray cN) (o' := oB) (by k_mem) (by k_mem) (fun e => by rw [lB] at e; cases e)
  k_dflt (refine cut7 (s := s1) (h₀ := s1.heap) (L := s1.heap.objs.size) (P := LawJ (s1.heap.objs.size + 1 + 1) (s1.heap.objs.size + 1) ns 3) (fun R Q c => ?_) ?_)
  · k_steps
    dsimp only
    rename_i nl _ ln _ _ _ _ _ tl9 _ _ hl9 lg dx el oL m91 m92 ld9 m93 n91 n92 _ _ _ oF dF sl _ ls _ _ F8 N8
    have lsA := kst_ltOf ls.2.2.2.2.2
    have a1 := hl9 (nl, _) (by k_mem) _ m92
    have a2 := hl9 (s1.heap.objs.size + 1 + 1, _) (by k_mem) _ m92
    have a3 := hl9 (s1.heap.objs.size + 1, _) (by k_mem) _ m92
    have a4 := hl9 (dl, _) (by k_mem) _ m92
    have a5 := hl9 (nm, _) (by k_mem) _ m92
    have b2 := hl9 (s1.heap.objs.size + 1 + 1, _) (by k_mem) _ m93
    have b3 := hl9 (s1.heap.objs.size + 1, _) (by k_mem) _ m93
    have c2 := hl9 (s1.heap.objs.size + 1 + 1, _) (by k_mem) _ m91
    have c3 := hl9 (s1.heap.objs.size + 1, _) (by k_mem) _ m91
    have d1 := lsA _ (List.mem_append.mpr (.inr m91))
    have d2 := lsA _ (List.mem_append.mpr (.inr m92))
    have d3 := lsA _ (List.mem_append.mpr (.inr m93))
    have n93 : @Ne Nat lg dx := led_ne N8 (o := instObj 138 dx) (o' := oL) (by simp only [List.mem_append, List.mem_cons, m91, or_true]) (by simp only [List.mem_append, List.mem_cons, m92, or_true]) (fun e => by obtain ⟨_, _, _, _, _, _, _, q⟩ := ld9; rw [q] at e; cases e)
    refine c _ _ _ _ (LawJ.start (dx := dx) (cY := ys.length) (cN := cN) f1 f2 ⟨by walk_at "look", by walk_at "look", by walk_at "look", by walk_at "look", by walk_at "look", by walk_at "look", ⟨_, by walk_at "look"⟩, ⟨_, by walk_at "look"⟩⟩ hN hys ld9 ⟨?_, ?_, ?_, ?_, ?_, ?_, ?_, ?_, ?_, ?_⟩ dF lA) F8 (kst_newsOf N8 ?_)
    · omega
    · exact Nat.ne_of_lt a2
    · omega
    · exact Nat.ne_of_lt a3
    · omega
    · exact Nat.ne_of_lt d2
    · refine List.forall_mem_cons.mpr ⟨neN (by (try dsimp only); omega), List.forall_mem_cons.mpr ⟨nd1, List.forall_mem_cons.mpr ⟨nm1, List.forall_mem_cons.mpr ⟨Nat.ne_of_gt b2, List.forall_mem_cons.mpr ⟨Nat.ne_of_gt c2, hs1⟩⟩⟩⟩⟩
    · refine List.forall_mem_cons.mpr ⟨neN (by (try dsimp only); omega), List.forall_mem_cons.mpr ⟨nd2, List.forall_mem_cons.mpr ⟨nm2, List.forall_mem_cons.mpr ⟨Nat.ne_of_gt b3, List.forall_mem_cons.mpr ⟨Nat.ne_of_gt c3, hs2⟩⟩⟩⟩⟩
    · refine List.forall_mem_cons.mpr ⟨Nat.ne_of_lt a1, List.forall_mem_cons.mpr ⟨Nat.ne_of_lt a4, List.forall_mem_cons.mpr ⟨Nat.ne_of_lt a5, List.forall_mem_cons.mpr ⟨fun e => n92 e.symm, List.forall_mem_cons.mpr ⟨n93, fun p hp => Nat.ne_of_lt (hl9 p (by simp only [List.mem_cons, hp, or_true]) _ m92)⟩⟩⟩⟩⟩
    · refine List.forall_mem_cons.mpr ⟨Nat.ne_of_lt ls.1, List.forall_mem_cons.mpr ⟨Nat.ne_of_lt ls.2.2.2.1, List.forall_mem_cons.mpr ⟨Nat.ne_of_lt ls.2.2.2.2.1, List.forall_mem_cons.mpr ⟨Nat.ne_of_lt d3, List.forall_mem_cons.mpr ⟨Nat.ne_of_lt d1, fun p hp => Nat.ne_of_lt (lsA p (List.mem_append.mpr (.inl hp)))⟩⟩⟩⟩⟩
    · intro p hp
      simp only [List.mem_cons, List.mem_append] at hp ⊢
      rcases hp with rfl | rfl | rfl | rfl | rfl | rfl | rfl | rfl | rfl | hp
      · simp only [true_or, or_true]
      · simp only [true_or, or_true]
      · simp only [m92, or_true]
      · simp only [true_or, or_true]
      · simp only [true_or, or_true]
      · simp only [true_or, or_true]
      · simp only [true_or, or_true]
      · simp only [m93, or_true]
      · simp only [m91, or_true]
      · simp only [hp, true_or, or_true]
  clear e1 e2 e3 F9 N9
  have hMk := holdMark
  rintro h9 tk9 m9 nx hJ0 F9 N9
  k_steps
  unfold Held
  rename IsRange _ _ _ _ _ _ _ _ => hr9
  refine it_rangeJ (n := 9) (fun i m nx => LawJ (s1.heap.objs.size + 1 + 1) (s1.heap.objs.size + 1) ns (3 + 3 * (i : Int)) m nx) (by exact rfl) hr9 (small_one (by omega) (by omega) (by omega) (by omega)) (by rw [rangeSize_nat]; rfl) (by assumption) (by assumption) (by rw [show (3 : Int) + 3 * ((0 : Nat) : Int) = 3 from rfl]; exact hJ0) ?_ ?_
  · rename HoldMark => hMk7
    clear hMk7
    rintro i ti u nx h tk own hi hoff ⟨hsS, w', disk, cur, nm', dl', nl, lg, sl, dx, snv, o', oA', oF, tF, va, svs, sc, rest, ⟨hInv, hLen⟩, ⟨e1, e2, e3, e4, e5, e6, ⟨t7, e7⟩, ⟨t8, e8⟩⟩, hL, hSep, hoF, hoA, rfl⟩ F3 N3
    clear hr9
    simp only [List.cons_append] at N3
    clear hD hcd X0 GL V X B TE TW G Y ra w1 r0 hr hL0 hlay0 hr0 hl2 hsh
    try clear lA lB
    try clear hI hLs hc63 hct ho hg M
    try clear M
    try clear hys lenY nm1 nm2 hs1 hs2 nd1 nd2
    have kr := hInv.here.rows
    obtain ⟨vsn, cn, mn, hIn⟩ := hL.nums
    obtain ⟨nvs, n1, mw, hnw⟩ := hL.now
    have lenI := hIn.length
    have lenW : nvs.length = cur.now.length := by rw [hnw.length, List.length_map]
    have hRows : RowsOk cur.now cur.bs := fun k r hr => by
      have := kr k r hr
      have := hInv.fr
      omega
    have g1 := hInv.here.ne
    have g2 := hInv.here.last
    have g3 := hInv.here.bs0
    have g4 := hInv.here.told1
    have g5 := hInv.here.told2
    have g6 : 1 ≤ cur.fresh := by
      obtain ⟨r, h1, _⟩ := hInv.here.at0
      have := kr 0 r h1
      omega
    have g7 := hInv.fr
    have hi' : (i : Int) < 9 := by omega
    k_dflt (refine cut5 (s := s1) (h₀ := s1.heap) (L := s1.heap.objs.size) (P := PTurn (s1.heap.objs.size + 1 + 1) (s1.heap.objs.size + 1) dx sl nm' dl' nl lg cur w' snv oA' oF o' svs sc (rest ++ own)) (fun R Q c => ?_) ?_)
    · k_steps
      rename Int => xd
      have q1 := Int.fmod_eq_emod_of_nonneg xd (show (0 : Int) ≤ 8 by decide)
      have q2 := Int.emod_nonneg xd (show (8 : Int) ≠ 0 by decide)
      have q3 := Int.emod_lt_of_pos xd (show (0 : Int) < 8 by decide)
      have q4 := Int.fdiv_eq_ediv_of_nonneg xd (show (0 : Int) ≤ 8 by decide)
      dsimp only
      (rename Fr _ _ _ _ => FF)
      (rename News _ _ _ _ => NN)
      refine c _ _ _ _ ⟨xd.fmod 8, xd.fdiv 8, _, _, _, _, by omega, by omega, by omega, by omega, ⟨by walk_at "look", by walk_at "look", by walk_at "look", by walk_at "look", by walk_at "look", by walk_at "look", ⟨_, by walk_at "look"⟩, ⟨_, by walk_at "look"⟩⟩, by walk_at "look", by walk_at "look", (by walk_at "look" : _ = _).trans (opt_int ?_), (by walk_at "look" : _ = _).trans (opt_int ?_), rfl⟩ FF NN <;> omega
    clear e1 e2 e3 e4 e5 e6 e7 e8 F3 N3
    rintro h9 tk9 m9 nx ⟨way, y, tw, ty, tb, tla, y1, y2, y3, y4, hM, v1, v2, v3, v4, rfl⟩ F9 N9
    k_dflt (refine cut1 (s := s1) (h₀ := s1.heap) (L := s1.heap.objs.size) (P := LawT (s1.heap.objs.size + 1 + 1) (s1.heap.objs.size + 1) ns (3 + 3 * ((i + 1 : Nat) : Int)) own y) (fun R Q c => ?_) ?_)
    · clear hi kMk
      have kMk := kstMark
      have hT : ∀ (m' : Str → Option Value), (∀ z ∈ lawVars, m' z = m9 z) → m' (Str.ofString "y") = m9 (Str.ofString "y") → LawT (s1.heap.objs.size + 1 + 1) (s1.heap.objs.size + 1) ns (3 + 3 * ((i + 1 : Nat) : Int)) own y m' ((s1.heap.objs.size + 1 + 1, oA') :: (s1.heap.objs.size + 1, oF) :: (dx, o') :: (sl, listOf svs.toArray sc) :: (rest ++ own)) :=
        fun m' k1 k2 => ⟨_, ⟨hsS, w', disk, cur, nm', dl', nl, lg, sl, dx, snv, o', oA', oF, tF, va, svs, sc, rest, ⟨hInv.mono (show (3 : Int) + 3 * (i : Int) ≤ 3 + 3 * ((i + 1 : Nat) : Int) by omega), by omega⟩, hM.keep k1, hL, hSep, hoF, hoA, rfl⟩, hoff, by simp only [List.cons_append], _, k2.trans v2⟩
      obtain ⟨e1, e2, e3, e4, e5, e6, ⟨t7, e7⟩, ⟨t8, e8⟩⟩ := id hM
      obtain ⟨p1, p2, p3, p4, p5, p6, p7, p8, p9, p10⟩ := id hSep
      have hwS : w' < hsS.length := by
        obtain ⟨_, q, _⟩ := hInv.disk
        exact (List.getElem?_eq_some_iff.mp q).1
      have hsl : svs.length = hsS.length - 1 := by rw [hL.saves.length, List.length_tail]
      have hw7 : way < 3 ∨ way = 3 ∨ (way = 4 ∧ (w' : Int) < svs.length) ∨ way = 6 ∨ (way = 7 ∧ y.fmod 3 = 0) ∨ (3 < way ∧ way ≠ 6 ∧ ¬ (way = 4 ∧ (w' : Int) < svs.length) ∧ ¬ (way = 7 ∧ y.fmod 3 = 0)) := by omega
      have owA : ∀ p ∈ own, p.1 ≠ s1.heap.objs.size + 1 + 1 := fun p hp => ownOff_at hoff (s1.heap.objs.size + 1 + 1, oA') (by simp) p hp
      have owF : ∀ p ∈ own, p.1 ≠ s1.heap.objs.size + 1 := fun p hp => ownOff_at hoff (s1.heap.objs.size + 1, oF) (by simp) p hp
      have owD : ∀ p ∈ own, p.1 ≠ dx := fun p hp => ownOff_at hoff (dx, o') (by simp) p hp
      have owS : ∀ p ∈ own, p.1 ≠ sl := fun p hp => ownOff_at hoff (sl, listOf svs.toArray sc) (by simp) p hp
      obtain ⟨sv, el, vs, nE, hLD, mE, aE, aS⟩ := hL.log
      have lenE := aE.length
      rw [List.length_drop] at lenE
      rcases hw7 with hw | hw | ⟨hw, hw2⟩ | hw | ⟨hw, hw2⟩ | ⟨hw, hw2, hw3, hw4⟩
      · have hMk := holdMark
        have hwn : way ≠ 3 ∧ way ≠ 4 ∧ way ≠ 6 ∧ way ≠ 7 := by omega
        k_steps
        unfold Held
        have q1 := Int.fmod_eq_emod_of_nonneg y (show (0 : Int) ≤ 5 by decide)
        have q2 := Int.emod_nonneg y (show (5 : Int) ≠ 0 by decide)
        have q3 := Int.emod_lt_of_pos y (show (0 : Int) < 5 by decide)
        have q4 := Int.fdiv_eq_ediv_of_nonneg y (show (0 : Int) ≤ 5 by decide)
        have q5 := Int.fmod_eq_emod_of_nonneg (y.fdiv 5) (show (0 : Int) ≤ 4 by decide)
        have q6 := Int.emod_nonneg (y.fdiv 5) (show (4 : Int) ≠ 0 by decide)
        have q7 := Int.emod_lt_of_pos (y.fdiv 5) (show (0 : Int) < 4 by decide)
        have q8 := Int.fmod_eq_emod_of_nonneg y (show (0 : Int) ≤ 11 by decide)
        k_dflt (refine cut4 (s := s1) (h₀ := s1.heap) (L := s1.heap.objs.size) (P := PAfter (s1.heap.objs.size + 1 + 1) (s1.heap.objs.size + 1) dx sl nm' dl' nl lg cur w' snv o' svs sc (rest ++ own) y ty tb tla) (fun R Q c => ?_) ?_)
        · k_steps
          all_goals dsimp only
          all_goals (
            rename Fr _ _ _ _ => FF
            rename News _ _ _ _ => NN
            refine c _ _ _ _ ⟨_, ((y.fdiv 5).fmod 4).toNat, _, _, _, _, _, by assumption, by assumption, ?_, ?_, by omega, hM.keep (fun z hz => ?_), by walk_at "look", by walk_at "look", by walk_at "look", (by walk_at "look" : _ = _).trans (opt_int (by omega)), rfl⟩ FF NN)
          · omega
          · omega
          · (revert z hz; refine keep8 ?_ ?_ ?_ ?_ ?_ ?_ ?_ ?_ <;> walk_at "look9")
          · split <;> omega
          · split <;> omega
          · (revert z hz; refine keep8 ?_ ?_ ?_ ?_ ?_ ?_ ?_ ?_ <;> walk_at "look9")
        clear e1 e2 e3 e4 e5 e6 e7 e8 v1 v2 v3 v4 F9 N9 hoF hoA q1 q2 q3 q4 q5 q6 q7 q8
        rintro h9 tk9 m9 nx ⟨af, cnt, oA2, oF2, ta, tf2, tc, hoA, hoF, a1, a2, a3, hM, v2, v3, v4, v5, rfl⟩ F9 N9
        have hMk := holdMark
        k_dflt (refine cut1 (s := s1) (h₀ := s1.heap) (L := s1.heap.objs.size) (P := PRows (s1.heap.objs.size + 1 + 1) (s1.heap.objs.size + 1) dx sl nm' dl' nl lg cur w' snv oA2 oF2 o' svs sc rest own y ty tb tla tc cnt af) (fun R Q c => ?_) ?_)
        · k_steps
          unfold Held
          rename_i F5 N5 h6 tk6 t6 u6 v6 hr6 F6 N6 k6
          clear hMk8
          have hfr := hInv.fr
          refine comp_range (n := cnt) (fun i ys nx => ∃ (rs : List Rw) (new : Led), rs.length = i ∧ RowsNew rs af (cur.fresh + 1) ∧ DatAll new ys (rs.map Rw.dat) ∧ nx = new ++ ((s1.heap.objs.size + 1 + 1, oA2) :: (s1.heap.objs.size + 1, oF2) :: (dx, o') :: (sl, listOf svs.toArray sc) :: (rest ++ own)) ∧
            (∀ p ∈ new, ∀ q ∈ ((s1.heap.objs.size + 1 + 1, oA2) :: (s1.heap.objs.size + 1, oF2) :: (dx, o') :: (sl, listOf svs.toArray sc) :: (rest ++ own) : Led), q.1 ≠ p.1)) (by exact rfl) F6 N6 hr6 (small_one (by omega) (by omega) (by omega) (by omega)) (by rw [rangeSize_nat]; omega) (by omega)
            ⟨[], [], rfl, fun k r h => (nomatch h), .nil, rfl, fun _ h => nomatch h⟩ ?_ ?_
          · rintro g i2 t ys nx I oI C oC D m₂ h tk E' hi2 ⟨rs, new, hrl, hrn, hys, rfl, hsep⟩ hC hx F9 N9 off ne
            clear N5 N6
            have q1 := Int.fmod_eq_emod_of_nonneg ((0 : Int) + (i2 : Int)) (show (0 : Int) ≤ 2 by decide)
            k_steps
            rename_i lB _ l1 _ _ _ _ _ _ _ T9 _ F8 N8 l8
            have off3 := off.mem
            have lt8 := kst_ltOf l8.2.2.2.2
            refine LCg.CompEnd.intro F8 N8 ((T9, _) :: (new ++ _)) (by walk_at "p9") (LCg.Off3.of ?_) trivial (rows_snoc hys hrl hrn (by omega) hsep (fun q hq => Nat.ne_of_lt (lt8 q (List.mem_append.mpr (.inr hq)))))
            intro p hp
            rcases List.mem_cons.mp hp with rfl | hp
            · exact ⟨Nat.ne_of_gt l8.2.1, Nat.ne_of_gt l8.2.2.1, Nat.ne_of_gt l8.2.2.2.1⟩
            · exact off3 p hp
          · rintro g ys nx ⟨rs, new, hrl, hrn, hys, rfl, hsep⟩ D h8 tk8 F8 N8 o8
            have ne8 := off1_ne o8
            clear N5 N6
            k_steps
            dsimp only
            have up : ∀ p ∈ new, p ∈ ((D, LCg.lst ys) :: new : Led) := led_cons
            refine c _ _ _ _ ⟨D, ys, rs, (D, LCg.lst ys) :: new, hrl, hrn, datAll_up hys up, .head _, ?_, ?_, ?_, hM.keep (fun z hz => ?_), by walk_at "look", by walk_at "look", by walk_at "look", by walk_at "look", by walk_at "look", rfl⟩ F8 (kst_newsOf N8 (by walk_at "p9"))
            · exact List.forall_mem_cons.mpr ⟨⟨(ne8 (s1.heap.objs.size + 1 + 1, oA2) (by simp)).symm, (ne8 (s1.heap.objs.size + 1, oF2) (by simp)).symm, (ne8 (dx, o') (by simp)).symm, (ne8 (sl, listOf svs.toArray sc) (by simp)).symm⟩,
                fun p hp => ⟨(hsep p hp (s1.heap.objs.size + 1 + 1, oA2) (by simp)).symm, (hsep p hp (s1.heap.objs.size + 1, oF2) (by simp)).symm, (hsep p hp (dx, o') (by simp)).symm, (hsep p hp (sl, listOf svs.toArray sc) (by simp)).symm⟩⟩
            · exact List.forall_mem_cons.mpr ⟨fun q hq => ne8 q (by simp [hq]), fun p hp q hq => hsep p hp q (by simp [hq])⟩
            · exact List.forall_mem_cons.mpr ⟨fun q hq => ne8 q (by simp [hq]), fun p hp q hq => hsep p hp q (by simp [hq])⟩
            · (revert z hz; refine keep8 ?_ ?_ ?_ ?_ ?_ ?_ ?_ ?_ <;> walk_at "look9")
        clear hM v2 v3 v4 v5 F9 N9
        rintro h9 tk9 m9 nx ⟨rl, yr, rs, new, hrl, hrn, hyr, mrl, s1', s2', s3', hM, v2, v3, v4, v5, v6, rfl⟩ F9 N9
        have hMk := holdMark
        have lenYr := hyr.length
        rw [List.length_map] at lenYr
        k_dflt (refine cut1 (s := s1) (h₀ := s1.heap) (L := s1.heap.objs.size) (P := PEnts (s1.heap.objs.size + 1 + 1) (s1.heap.objs.size + 1) dx sl nm' dl' nl lg rl cur w' snv oA2 oF2 o' svs sc rest own new y ty tb tla tc cnt rs) (fun R Q c => ?_) ?_)
        · k_steps
          unfold Held
          have up3 : ∀ p ∈ new, p ∈ ((s1.heap.objs.size + 1 + 1, oA2) :: (s1.heap.objs.size + 1, oF2) :: (dx, o') :: (sl, listOf svs.toArray sc) :: (new ++ (rest ++ own)) : Led) := by walk_at "p9"
          refine comp_ledger (fun i ys nx => ∃ (new2 : Led), nx = new2 ++ ((s1.heap.objs.size + 1 + 1, oA2) :: (s1.heap.objs.size + 1, oF2) :: (dx, o') :: (sl, listOf svs.toArray sc) :: (new ++ (rest ++ own))) ∧ EntAll new2 ys (rs.take i) ∧
            (∀ p ∈ new2, ∀ q ∈ ((s1.heap.objs.size + 1 + 1, oA2) :: (s1.heap.objs.size + 1, oF2) :: (dx, o') :: (sl, listOf svs.toArray sc) :: (new ++ (rest ++ own)) : Led), q.1 ≠ p.1)) (by exact rfl) F9 N9 (up3 _ mrl) (by omega)
            ⟨[], rfl, .nil, fun _ h => nomatch h⟩ ?_ ?_
          · rintro g i2 v ys nx I oI C oC D m₂ h tk E' hi2 hvi ⟨new2, rfl, hys, hsep⟩ hC hx F8 N8 off ne
            obtain ⟨r, hr, a9, n9, ta1, ta2, ta3, ta4, rfl, mr⟩ := rows_get hyr hvi
            clear N9 F9
            k_steps
            rename_i r9 tl9 _ _ F7 hl9 ho9 N7
            have off3 := off.mem
            refine LCg.CompEnd.intro F7 N7 ((tl9 ++ new2) ++ _) (by walk_at "p9") (LCg.Off3.of ?_) ?_ ⟨tl9 ++ new2, rfl, ?_, ?_⟩
            · intro p hp
              rcases List.mem_append.mp hp with hp1 | hp1
              · rcases List.mem_append.mp hp1 with hp2 | hp2
                · exact ⟨Nat.ne_of_gt (hl9 (I, oI) (by k_mem) p hp2), Nat.ne_of_gt (hl9 (C, oC) (by k_mem) p hp2), Nat.ne_of_gt (hl9 (D, LCg.lst ys) (by k_mem) p hp2)⟩
                · exact off3 p (List.mem_append.mpr (.inl hp2))
              · exact off3 p (List.mem_append.mpr (.inr hp1))
            · exact List.mem_append.mpr (.inr (up3 _ mrl))
            · rw [List.take_add_one, hr]
              exact (hys.up led_right).append (.cons (ho9.up led_left) .nil)
            · intro p hp q hq
              rcases List.mem_append.mp hp with hp | hp
              · exact Nat.ne_of_lt (hl9 q (.tail _ (.tail _ (.tail _ (List.mem_append.mpr (.inr hq))))) p hp)
              · exact hsep p hp q hq
          · rintro g ys nx ⟨new2, rfl, hys, hsep⟩ D h8 tk8 F8 N8 o8
            have ne8 := off1_ne o8
            dsimp only
            rw [lenYr, List.take_length] at hys
            refine c _ _ _ _ ⟨D, ys, new2, hys, ?_, ?_, hM.keep (fun z hz => ?_), by walk_at "look", by walk_at "look", by walk_at "look", by walk_at "look", by walk_at "look", by walk_at "look", ?_, rfl⟩ F8 (kst_newsOf N8 (by walk_at "p9"))
            · exact fun p hp => ⟨(hsep p hp (s1.heap.objs.size + 1 + 1, oA2) (by simp)).symm, (hsep p hp (s1.heap.objs.size + 1, oF2) (by simp)).symm, (hsep p hp (dx, o') (by simp)).symm, (hsep p hp (sl, listOf svs.toArray sc) (by simp)).symm⟩
            · exact fun p hp q hq => hsep p hp q (by simp [hq])
            · (revert z hz; refine keep8 ?_ ?_ ?_ ?_ ?_ ?_ ?_ ?_ <;> walk_at "look9")
            · intro p hp
              refine ne8 p ?_
              simp only [List.mem_cons, List.mem_append] at hp ⊢
              grind
        clear hM v2 v3 v4 v5 v6 F9 N9
        rintro h9 tk9 m9 nx ⟨en, es, new2, hes, z1', z2', hM, v2, v3, v4, v5, v6, v7, hen, rfl⟩ F9 N9
        have lenEs := hes.length
        have hrs0 : ∀ q, rs[0]? = some q → q.i = af := fun q hq => by
          have := (hrn 0 q hq).1
          omega
        have hdl : (cur.now.drop cur.told).length = cur.now.length - cur.told := List.length_drop
        have N8 : News s1.heap s1.heap.objs.size h9 ((dx, o') :: (en, listOf es.toArray es.length) :: (s1.heap.objs.size + 1 + 1, oA2) :: (s1.heap.objs.size + 1, oF2) :: (sl, listOf svs.toArray sc) :: (new2 ++ (new ++ (rest ++ own)))) := kst_newsOf N9 (by walk_at "p9")
        clear N9
        have hend : @Ne Nat en dx := fun e => hen (dx, o') (.tail _ (.tail _ (.head _))) e.symm
        have hnd : ∀ p ∈ ((en, listOf es.toArray es.length) :: (s1.heap.objs.size + 1 + 1, oA2) :: (s1.heap.objs.size + 1, oF2) :: (sl, listOf svs.toArray sc) :: (new2 ++ (new ++ (rest ++ own))) : Led), p.1 ≠ dx :=
          List.forall_mem_cons.mpr ⟨hend, List.forall_mem_cons.mpr ⟨p2, List.forall_mem_cons.mpr ⟨p4, List.forall_mem_cons.mpr ⟨fun e => p6 e.symm, List.forall_mem_append.mpr ⟨fun p hp => (z1' p hp).2.2.1, List.forall_mem_append.mpr ⟨fun p hp => (s1' p hp).2.2.1, List.forall_mem_append.mpr ⟨p9, owD⟩⟩⟩⟩⟩⟩⟩
        have hInst := hL.inst
        obtain ⟨e1, e2, e3, e4, e5, e6, ⟨t7, e7⟩, ⟨t8, e8⟩⟩ := id hM
        obtain ⟨j1, j2, j3, j4, j5, j6, j7, rfl⟩ := id hLD
        k_dflt (refine cut2 (s := s1) (h₀ := s1.heap) (L := s1.heap.objs.size) (P := PTaken (s1.heap.objs.size + 1 + 1) (s1.heap.objs.size + 1) dx sl nm' dl' nl lg rl en cur (appd cur cnt af rs) w' snv sv oA2 oF2 svs es sc rest own new y ty tb tla tc cnt (decide (cnt = 0 ∨ af ≤ cur.bs + cur.now.length))) (fun R Q c => ?_) ?_)
        · have fin : ∀ (tlX : Led) (b : Bool) {o3 : Obj} {el3 : Addr} {vs3 : List Value} {n3 : Nat} {h tk}, b = decide (cnt = 0 ∨ af ≤ cur.bs + cur.now.length) → (∀ p ∈ tlX, (s1.heap.objs.size + 1 + 1 < p.1 ∧ s1.heap.objs.size + 1 < p.1 ∧ dx < p.1 ∧ sl < p.1 ∧ en < p.1) ∧ ∀ q ∈ own, q.1 < p.1) →
              LogD o3 sv el3 ((appd cur cnt af rs).bs + (appd cur cnt af rs).told) → (el3, listOf vs3.toArray n3) ∈ (tlX ++ (new2 ++ new)) ++ rest → EntAll ((tlX ++ (new2 ++ new)) ++ rest) vs3 ((appd cur cnt af rs).now.drop (appd cur cnt af rs).told) →
              Fr s1.heap s1.heap.objs.size h (fun z => if z = Str.ofString "taken" then some (Value.bool b) else m9 z) → News s1.heap s1.heap.objs.size h ((dx, o3) :: (en, listOf es.toArray es.length) :: (s1.heap.objs.size + 1 + 1, oA2) :: (s1.heap.objs.size + 1, oF2) :: (sl, listOf svs.toArray sc) :: (new2 ++ (new ++ (rest ++ (own ++ tlX))))) → _ :=
              fun tlX b {o3 el3 vs3 n3 h tk} hb hsX k1 k2 k3 FF NN => by
            have neA : ∀ p ∈ (tlX ++ (new2 ++ new) : Led), p.1 ≠ s1.heap.objs.size + 1 + 1 ∧ p.1 ≠ s1.heap.objs.size + 1 ∧ p.1 ≠ dx ∧ p.1 ≠ sl :=
              List.forall_mem_append.mpr ⟨fun p hp => by
                obtain ⟨⟨a, b, c, d, _⟩, _⟩ := hsX p hp
                exact ⟨Nat.ne_of_gt a, Nat.ne_of_gt b, Nat.ne_of_gt c, Nat.ne_of_gt d⟩, List.forall_mem_append.mpr ⟨z1', s1'⟩⟩
            have neO : ∀ p ∈ ((tlX ++ (new2 ++ new)) ++ rest : Led), ∀ q ∈ own, q.1 ≠ p.1 :=
              List.forall_mem_append.mpr ⟨List.forall_mem_append.mpr ⟨fun p hp q hq => Nat.ne_of_lt ((hsX p hp).2 q hq), List.forall_mem_append.mpr ⟨z2', s2'⟩⟩, fun p hp q hq => ownOff_at hoff p (.tail _ (.tail _ (.tail _ (.tail _ hp)))) q hq⟩
            have hen2 : ∀ p ∈ ((s1.heap.objs.size + 1 + 1, oA2) :: (s1.heap.objs.size + 1, oF2) :: (dx, o3) :: (sl, listOf svs.toArray sc) :: (((tlX ++ (new2 ++ new)) ++ rest) ++ own) : Led), p.1 ≠ en := by
              refine List.forall_mem_cons.mpr ⟨hen (s1.heap.objs.size + 1 + 1, oA2) (.head _), List.forall_mem_cons.mpr ⟨hen (s1.heap.objs.size + 1, oF2) (.tail _ (.head _)), List.forall_mem_cons.mpr ⟨hend.symm, List.forall_mem_cons.mpr ⟨hen (sl, listOf svs.toArray sc) (.tail _ (.tail _ (.tail _ (.head _)))), ?_⟩⟩⟩⟩
              refine List.forall_mem_append.mpr ⟨List.forall_mem_append.mpr ⟨List.forall_mem_append.mpr ⟨fun p hp => Nat.ne_of_gt (hsX p hp).1.2.2.2.2, List.forall_mem_append.mpr ⟨fun p hp => hen p ?_, fun p hp => hen p ?_⟩⟩, fun p hp => hen p ?_⟩, fun p hp => hen p ?_⟩ <;> simp only [List.mem_cons, List.mem_append, hp, true_or, or_true]
            refine c h tk _ _ ⟨(tlX ++ (new2 ++ new)) ++ rest, o3, el3, vs3, n3, led_right, fun p hp => by simp only [List.mem_append, hp, true_or, or_true], hSep.grow neA, neO, k1, k2, k3, hM.keep (fun z hz => ?_), by walk_at "look", by walk_at "look", by walk_at "look", by walk_at "look", by walk_at "look", by walk_at "look", by rw [← hb]; walk_at "look", hen2, rfl⟩ FF (kst_newsOf NN (by walk_at "p9"))
            (revert z hz; refine keep8 ?_ ?_ ?_ ?_ ?_ ?_ ?_ ?_ <;> walk_at "look9")
          by_cases hin : cnt = 0 ∨ af ≤ cur.bs + cur.now.length
          · have hqs : ∀ q, rs[0]? = some q → 0 ≤ q.i ∧ q.i ≤ cur.bs + cur.told + vs.length := fun q hq => by
              have h1 := hrs0 q hq
              have h2 := (List.getElem?_eq_some_iff.mp hq).1
              omega
            k_steps
            dsimp only
            rename_i tlT o9 _ _ F7 hlT hoT N7
            have hsX : ∀ p ∈ tlT, (s1.heap.objs.size + 1 + 1 < p.1 ∧ s1.heap.objs.size + 1 < p.1 ∧ dx < p.1 ∧ sl < p.1 ∧ en < p.1) ∧ ∀ q ∈ own, q.1 < p.1 := fun p hp =>
              ⟨⟨hlT (s1.heap.objs.size + 1 + 1, oA2) (by k_mem) p hp, hlT (s1.heap.objs.size + 1, oF2) (by k_mem) p hp, hlT (dx, _) (by k_mem) p hp, hlT (sl, _) (by k_mem) p hp, hlT (en, _) (by k_mem) p hp⟩, fun q hq => hlT q (by simp only [List.mem_cons, List.mem_append, hq, or_true]) p hp⟩
            have hdd : true = decide (cnt = 0 ∨ af ≤ cur.bs + cur.now.length) := (decide_eq_true hin).symm
            have hUp : ∀ p ∈ rest, p ∈ (tlT ++ (new2 ++ new)) ++ rest := led_right
            cases rs with
            | nil =>
              have hc0 : cnt = 0 := hrl.symm
              have ea := appd_no (cur := cur) (af := af) (rs := []) (.inl hc0)
              refine fin tlT true hdd hsX (by rw [ea]; exact hoT) (hUp _ mE) (by rw [ea]; exact aE.up hUp) F7 N7
            | cons q0 qs0 =>
              have hc0 : cnt ≠ 0 := by
                rw [← hrl]
                simp
              have haf : af ≤ cur.bs + cur.now.length := hin.resolve_left hc0
              have ea := appd_yes (rs := q0 :: qs0) hc0 haf
              obtain ⟨el3, ld3, ml3⟩ := hoT
              have hq0 := hrs0 q0 rfl
              refine fin tlT true hdd hsX (el3 := el3) ?_ (List.mem_append.mpr (.inl (List.mem_append.mpr (.inl ml3)))) ?_ F7 N7
              · rw [ea]
                show LogD o9 sv el3 (cur.bs + ((min cur.told (af - cur.bs).toNat : Nat) : Int))
                rw [show cur.bs + ((min cur.told (af - cur.bs).toNat : Nat) : Int) = min (cur.bs + cur.told) q0.i by omega]
                exact ld3
              · rw [ea, put_drop (by omega)]
                refine EntAll.append ?_ (hes.up (fun p hp => by simp only [List.mem_append, hp, true_or, or_true]))
                rw [show (af - cur.bs).toNat - cur.told = (q0.i - (cur.bs + cur.told)).toNat by omega]
                exact (aE.take (q0.i - (cur.bs + cur.told)).toNat).up hUp
          · obtain ⟨v0, us0, q0, qs0, rfl, rfl⟩ : ∃ v0 us0 q0 qs0, es = v0 :: us0 ∧ rs = q0 :: qs0 := by
              cases hes with
              | nil => exact absurd (.inl hrl.symm) hin
              | cons _ _ => exact ⟨_, _, _, _, rfl, rfl⟩
            have lenE0 : us0.length + 1 ≤ 3 := by
              rw [List.length_cons] at lenEs
              omega
            have lenQ0 : qs0.length = us0.length := by
              rw [List.length_cons, List.length_cons] at lenEs
              omega
            simp only [List.length_cons] at lenEs hrl
            obtain ⟨qt, qi, qd⟩ := q0
            have hqi : qi = af := hrs0 _ rfl
            subst hqi
            obtain ⟨a0, dx0, k1', k2', k3', k4', l1', l2', l3', l4', l5', l6', l7', l8', rfl, mk1, mk2⟩ : EntAt new2 v0 ⟨qt, qi, qd⟩ := by
              cases hes with | cons h _ => exact h
            have hne1 : qi ≠ cur.bs + cur.told + vs.length := by omega
            have hne2 : ¬ qi ≤ cur.bs + cur.told := by omega
            have hne3 : ¬ qi < cur.bs + cur.told + vs.length := by omega
            k_steps
            · exfalso
              rename (_ : Int) = 0 => hno
              rw [List.length_cons] at hno
              omega
            · dsimp only
              rename Fr _ _ _ _ => FF
              rename News _ _ _ _ => NN
              have ea := appd_no (cnt := cnt) (rs := ⟨qt, qi, qd⟩ :: qs0) (Or.inr (fun h => hin (Or.inr h)))
              have eF : (fun z => if z = Str.ofString "taken" then some (Value.bool false) else if z = Str.ofString "taken" then some (Value.bool true) else m9 z) = fun z => if z = Str.ofString "taken" then some (Value.bool false) else m9 z := by
                funext z
                by_cases hz : z = Str.ofString "taken"
                · rw [if_pos hz, if_pos hz]
                · rw [if_neg hz, if_neg hz, if_neg hz]
              rw [eF] at FF
              exact fin [] false (decide_eq_false hin).symm (fun _ h => nomatch h) (by rw [ea]; exact hLD) (led_right _ mE) (by rw [ea]; exact aE.up led_right) FF (by rw [List.append_nil]; exact NN)
        clear hM v2 v3 v4 v5 v6 v7 F9 N8 hT hLD hes hnd hen hend z1' z2' s1' s2' s3' e1 e2 e3 e4 e5 e6 e7 e8
        rintro h9 tk9 m9 nx ⟨R3, o3, el3, vs3, n3, up3, up4, hSep3, hoff3, ld3, me3, ae3, hM, v2, v3, v4, v5, v6, v7, v8, hen, rfl⟩ F9 N9
        k_dflt (refine cut1 (s := s1) (h₀ := s1.heap) (L := s1.heap.objs.size) (P := fun m nx => m = m9 ∧ nx = (s1.heap.objs.size + 1 + 1, oA2) :: (s1.heap.objs.size + 1, oF2) :: (dx, o3) :: (sl, listOf svs.toArray sc) :: (R3 ++ own)) (fun R Q c => ?_) ?_)
        · k_steps
          unfold Held
          generalize hWd : (s1.heap.objs.size + 1 + 1, oA2) :: (s1.heap.objs.size + 1, oF2) :: (dx, o3) :: (sl, listOf svs.toArray sc) :: (R3 ++ own) = restW at N9 hen
          refine While_inv2 (h₀ := s1.heap) (L := s1.heap.objs.size) (fun n m nx => m = m9 ∧ ∃ (us : List Value) (c : Nat), us.length = n ∧ us.length < 1000 ∧ nx = (en, listOf us.toArray c) :: restW) F9 N9 ⟨rfl, es, es.length, rfl, by omega, rfl⟩ ?_
          rintro n m12 nx h12 tk12 F12 N12 ⟨rfl, us, c12, rfl, hus, rfl⟩
          clear F9 N9
          rcases nil_or_app us with rfl | ⟨pp, yy, rfl⟩
          · k_steps
            dsimp only
            subst hWd
            exact c _ _ _ _ ⟨rfl, rfl⟩ (by assumption) (kst_newsOf (by assumption) (fun p hp => .tail _ hp))
          · rw [List.length_append, List.length_singleton] at hus
            k_steps
            · dsimp only
              exact ⟨_, _, _, _, pp.length, rfl, by assumption, by assumption, by rw [List.length_append, List.length_singleton]; exact Nat.lt_succ_self _, rfl, pp, _, rfl, by omega, rfl⟩
            · exfalso
              rename ¬ _ => hno
              rw [List.length_append, List.length_singleton] at hno
              omega
        clear F9 N9 hen
        rintro h9 tk9 m nx ⟨rfl, rfl⟩ F9 N9
        have hL3 := hL.up up3
        have hInvA : Inv (3 + 3 * (i : Int) + 3) hsS w' disk (appd cur cnt af rs) := by
          by_cases h1 : cnt = 0 ∨ ¬ af ≤ cur.bs + cur.now.length
          · rw [appd_no h1]; exact hInv.spent
          · have h2 : cnt ≠ 0 := fun e => h1 (.inl e)
            have h3 : af ≤ cur.bs + cur.now.length := by omega
            rw [appd_yes h2 h3]
            refine hInv.put (by omega) (by omega) (by omega) (by omega) ?_
            intro k r hr
            have := hrn k r hr
            exact ⟨by omega, this.2⟩
        have as1 : (appd cur cnt af rs).snap = cur.snap := by unfold appd; split <;> rfl
        have as2 : (appd cur cnt af rs).fresh = cur.fresh + 1 := by unfold appd; split <;> rfl
        have hoff2 : OwnOff own (((s1.heap.objs.size + 1 + 1, oA2) :: (s1.heap.objs.size + 1, oF2) :: (dx, o3) :: (sl, listOf svs.toArray sc) :: R3 : Led).map (·.1)) := ownOff_of (List.forall_mem_cons.mpr ⟨owA, List.forall_mem_cons.mpr ⟨owF, List.forall_mem_cons.mpr ⟨owD, List.forall_mem_cons.mpr ⟨owS, hoff3⟩⟩⟩⟩)
        have endA : ∀ {m' : Str → Option Value} {nl3 : Addr} {nvs3 : List Value} {n4 : Nat} {new5 : Led}, LawM nm' dl' nl3 lg sl (appd cur cnt af rs).told w' snv m' → m' (Str.ofString "y") = some (.int y ty) → (nl3, listOf nvs3.toArray n4) ∈ new5 ++ R3 → DatAll (new5 ++ R3) nvs3 ((appd cur cnt af rs).now.map Rw.dat) →
            (∀ p ∈ new5, p.1 ≠ s1.heap.objs.size + 1 + 1 ∧ p.1 ≠ s1.heap.objs.size + 1 ∧ p.1 ≠ dx ∧ p.1 ≠ sl) → (∀ p ∈ new5, ∀ q ∈ own, q.1 ≠ p.1) →
            LawT (s1.heap.objs.size + 1 + 1) (s1.heap.objs.size + 1) ns (3 + 3 * ((i + 1 : Nat) : Int)) own y m' ((s1.heap.objs.size + 1 + 1, oA2) :: (s1.heap.objs.size + 1, oF2) :: (dx, o3) :: (sl, listOf svs.toArray sc) :: (new5 ++ R3) ++ own) :=
          fun {m' nl3 nvs3 n4 new5} z1 z2 z3 z4 z6 z7 => by
            have hL4 := hL3.up (rest' := new5 ++ R3) led_right
            exact ⟨_, ⟨hsS, w', disk, appd cur cnt af rs, nm', dl', nl3, lg, sl, dx, snv, o3, oA2, oF2, tf2, some (.int af ta), svs, sc, new5 ++ R3, ⟨hInvA.mono (by omega), by omega⟩, z1, ⟨⟨sv, el3, vs3, n3, ld3, led_right _ me3, ae3.up led_right, by rw [as1]; exact aS.up (fun p hp => led_right _ (up3 p hp))⟩, hL4.inst, ⟨nvs3, n4, z3, z4⟩, hL4.disk, by rw [as1]; exact hL4.snap, hL4.saves, hL4.nums⟩, hSep3.grow z6, by rw [as2]; exact hoF, hoA, rfl⟩, off_grow hoff2 z7, rfl, _, z2⟩
        obtain ⟨e1, e2, e3, e4, e5, e6, ⟨t7, e7⟩, ⟨t8, e8⟩⟩ := id hM
        have mw3 := up3 _ mw
        have hnw3 := datAll_up hnw up3
        have stay : cnt = 0 ∨ ¬ af ≤ cur.bs + cur.now.length → ∀ {h tk}, Fr s1.heap s1.heap.objs.size h m → News s1.heap s1.heap.objs.size h ((s1.heap.objs.size + 1 + 1, oA2) :: (s1.heap.objs.size + 1, oF2) :: (dx, o3) :: (sl, listOf svs.toArray sc) :: (R3 ++ own)) → _ := fun hno {h tk} FF NN => by
          have ea := appd_no (rs := rs) hno
          exact c h tk m _ (endA (new5 := []) (by rw [ea]; exact hM) v2 mw3 (by rw [ea]; exact hnw3) (fun _ h => nomatch h) (fun _ h => nomatch h)) FF NN
        have mrl3 := up4 _ mrl
        have hyr3 := datAll_up hyr up4
        by_cases hc0 : cnt = 0
        · have hc1 : (cnt : Int) = 0 := by omega
          rw [decide_eq_true (Or.inl hc0)] at v8
          k_steps
          · exfalso
            rename _ = true => hno
            simp [hc0] at hno
          · dsimp only
            exact stay (.inl hc0) (by assumption) (by assumption)
        · have hc1 : (cnt : Int) ≠ 0 := by omega
          by_cases haf : af ≤ cur.bs + cur.now.length
          · rw [decide_eq_true (Or.inr haf)] at v8
            k_steps
            · exfalso
              rename _ = true => hno
              rw [decide_eq_true (show af ≤ cur.bs + cur.now.length - 1 + 1 by omega)] at hno
              cases hno
            · dsimp only
              rename_i D1 _ lD1 D2 _ lD2 _ _ _ _ F8 N8
              have ltD1 := kst_ltOf lD1.2.2.2.2
              have ltD2 := kst_ltOf lD2.2.2.2.2.2
              have ea := appd_yes (rs := rs) hc0 haf
              have hdd : DatAll R3 (nvs.take (af - cur.bs).toNat ++ yr) ((appd cur cnt af rs).now.map Rw.dat) := by
                rw [ea]
                exact datAll_app (datAll_take _ hnw3) hyr3
              have hto : (if af - cur.bs < (cur.told : Int) then af - cur.bs else (cur.told : Int)) = (((appd cur cnt af rs).told : Nat) : Int) := by
                rw [ea]
                show _ = ((min cur.told (af - cur.bs).toNat : Nat) : Int)
                split <;> omega
              refine c _ _ _ _ (endA (new5 := [(D2, _), (D1, _)]) ⟨by walk_at "look", by walk_at "look", by walk_at "look", by walk_at "look", by walk_at "look", by walk_at "look", ⟨_, (by walk_at "look" : _ = _).trans (opt_int hto)⟩, ⟨_, by walk_at "look"⟩⟩ (by walk_at "look") (.head _) (datAll_up hdd led_right) ?_ ?_) F8 (kst_newsOf N8 (by walk_at "p9"))
              · exact List.forall_mem_cons.mpr ⟨⟨Nat.ne_of_gt lD2.2.1, Nat.ne_of_gt lD2.2.2.1, Nat.ne_of_gt lD2.2.2.2.1, Nat.ne_of_gt lD2.2.2.2.2.1⟩, List.forall_mem_cons.mpr ⟨⟨Nat.ne_of_gt lD1.1, Nat.ne_of_gt lD1.2.1, Nat.ne_of_gt lD1.2.2.1, Nat.ne_of_gt lD1.2.2.2.1⟩, fun _ h => nomatch h⟩⟩
              · exact List.forall_mem_cons.mpr ⟨fun q hq => Nat.ne_of_lt (ltD2 q (List.mem_append.mpr (.inr hq))), List.forall_mem_cons.mpr ⟨fun q hq => Nat.ne_of_lt (ltD1 q (List.mem_append.mpr (.inr hq))), fun _ h => nomatch h⟩⟩
          · rw [decide_eq_false (fun x => x.elim hc0 haf)] at v8
            k_steps
            · exfalso
              rename _ = true => hno
              rw [decide_eq_false (show ¬ af ≤ cur.bs + cur.now.length - 1 + 1 by omega)] at hno
              cases hno
            · dsimp only
              exact stay (.inr haf) (by assumption) (by assumption)
      · subst hw
        obtain ⟨j1, j2, j3, j4, j5, j6, j7, rfl⟩ := hLD
        have hInst := hL.inst
        have hent : EntAll rest ((vs.drop (cur.bs + cur.told - (cur.bs + cur.told)).toNat).take (cur.bs + cur.now.length - 1 + 1 - (cur.bs + cur.told)).toNat) (cur.now.drop cur.told) := by
          rw [Int.sub_self, Int.toNat_zero, List.drop_zero, List.take_of_length_le (by omega)]
          exact aE
        k_steps
        dsimp only
        rename_i tl _ _ hl P1 mP W1 _ l1 T1 _ l2 _ F8 N8
        rw [List.push_toArray] at N8
        have ltT := kst_ltOf l2.2.2.2.2.2
        have ltW := kst_ltOf l1.2.2.2.2
        have neA : ∀ p ∈ (T1, ({ cls := .type "tuple", data := .seq [Value.ref P1, .ref W1, snv].toArray 0 } : Obj)) :: (W1, listOf (nvs.drop (cur.told : Int).toNat).toArray 0) :: tl, p.1 ≠ s1.heap.objs.size + 1 + 1 ∧ p.1 ≠ s1.heap.objs.size + 1 ∧ p.1 ≠ dx ∧ p.1 ≠ sl :=
          List.forall_mem_cons.mpr ⟨⟨Nat.ne_of_gt l2.2.1, Nat.ne_of_gt l2.2.2.1, Nat.ne_of_gt l2.2.2.2.1, Nat.ne_of_gt l2.2.2.2.2.1⟩, List.forall_mem_cons.mpr ⟨⟨Nat.ne_of_gt l1.1, Nat.ne_of_gt l1.2.1, Nat.ne_of_gt l1.2.2.1, Nat.ne_of_gt l1.2.2.2.1⟩,
            fun p hp => ⟨Nat.ne_of_gt (hl (s1.heap.objs.size + 1 + 1, _) (.head _) p hp), Nat.ne_of_gt (hl (s1.heap.objs.size + 1, _) (.tail _ (.head _)) p hp), Nat.ne_of_gt (hl (dx, _) (.tail _ (.tail _ (.head _))) p hp), Nat.ne_of_gt (hl (sl, _) (.tail _ (.tail _ (.tail _ (.head _)))) p hp)⟩⟩⟩
        have neO : ∀ p ∈ (T1, ({ cls := .type "tuple", data := .seq [Value.ref P1, .ref W1, snv].toArray 0 } : Obj)) :: (W1, listOf (nvs.drop (cur.told : Int).toNat).toArray 0) :: tl, ∀ q ∈ own, q.1 ≠ p.1 :=
          List.forall_mem_cons.mpr ⟨fun q hq => Nat.ne_of_lt (ltT q (by simp only [List.mem_append, hq, true_or, or_true])), List.forall_mem_cons.mpr ⟨fun q hq => Nat.ne_of_lt (ltW q (by simp only [List.mem_append, hq, true_or, or_true])), fun p hp q hq => Nat.ne_of_lt (hl q (by simp only [List.mem_append, List.mem_cons, hq, or_true]) p hp)⟩⟩
        refine c _ _ _ _ ⟨_, ⟨hsS ++ [cur], w', disk, cur, nm', dl', nl, lg, sl, dx, snv, _, oA', oF, tF, va, svs ++ [.ref T1], sc + 1, _ ++ rest, ⟨hInv.save.mono (show (3 : Int) + 3 * (i : Int) ≤ 3 + 3 * ((i + 1 : Nat) : Int) by omega), by rw [List.length_append, List.length_singleton]; omega⟩, hM, (hL.up led_right).saved (List.ne_nil_of_length_pos (by omega)) ?_, hSep.grow neA, hoF, hoA, rfl⟩, off_grow hoff neO, rfl, _, v2⟩ F8 (kst_newsOf N8 ?_)
        · exact ⟨T1, P1, W1, snv, 0, _, 0, _, 0, rfl, led_left _ (.head _), led_left _ (.tail _ (.tail _ mP)), hent.up led_right, led_left _ (.tail _ (.head _)), datAll_up (by rw [Int.toNat_natCast]; exact datAll_drop _ hnw) led_right, datIn_up hL.snap led_right⟩
        · walk_at "p9"
      · subst hw
        have hMk := holdMark
        have hSv := hL.saves
        k_steps
        unfold Held
        k_dflt (refine cut1 (s := s1) (h₀ := s1.heap) (L := s1.heap.objs.size) (P := PSave (s1.heap.objs.size + 1 + 1) (s1.heap.objs.size + 1) dx sl nm' dl' nl lg hsS cur w' snv oA' oF o' svs sc rest own y ty) (fun R Q c => ?_) ?_)
        · k_steps
          dsimp only
          rename_i b9 hb9 a9 out9 rws9 mk9 n91 vs9 n92 ys9 n93 m91 m92 ae9 m93 ad9 dm9 _ _ _ _ F8 N8
          refine c _ _ _ _ ⟨b9, out9, rws9, mk9, vs9, ys9, n92, n93, by rw [← hb9, List.getElem?_tail, Int.toNat_natCast], m92, ae9, m93, ad9, dm9, hM.keep (fun z hz => ?_), by walk_at "look", by walk_at "look", by walk_at "look", by walk_at "look", rfl⟩ F8 (kst_newsOf N8 (by walk_at "p9"))
          (revert z hz; refine keep8 ?_ ?_ ?_ ?_ ?_ ?_ ?_ ?_ <;> walk_at "look9")
        clear e1 e2 e3 e4 e5 e6 e7 e8 v1 v2 v3 v4 F9 N9 hSv
        rintro h9 tk9 m9 nx ⟨b, out, rws, mk, vo, ys, n92, n93, hb, mO, aO, mR, aR, dM, hM, v2, u0, u1, u2, rfl⟩ F9 N9
        have hbOk := hInv.ok b (List.mem_of_getElem? hb)
        obtain ⟨hInvW, d0, ⟨r0, hr0, hr0i⟩, hdl, hdp, hbn, hbt, hdB, hA1, hA2⟩ := hInv.write hb
        obtain ⟨dvs, n2, md, hdk⟩ := hL.disk
        have lenD := hdk.length
        rw [List.length_map] at lenD
        have lenR := aR.length
        rw [List.length_map, List.length_drop] at lenR
        have lenO := aO.length
        rw [List.length_drop] at lenO
        have hfr := hInv.fr
        have hbl := hbOk.last
        have hbb := hbOk.bs0
        have hagr := (hInv.agree _ b hb).1
        have hbt1 := hbOk.told1
        have hRowsD : RowsOk disk d0 := by
          obtain ⟨a, ha, rfl⟩ := hInv.disk
          have haOk := hInv.ok a (List.mem_of_getElem? ha)
          have h1 := (haOk.rows 0 r0 hr0).1
          have h2 := (hInv.agree _ a ha).1
          intro k r hr
          have := haOk.rows k r hr
          omega
        have hbRows : RowsOk (b.now.drop b.told) (b.bs + b.told) := fun k r hr => by
          rw [List.getElem?_drop] at hr
          have := hbOk.rows _ r hr
          omega
        have hdl9 : (b.now.drop b.told).length < 1000 := by rw [List.length_drop]; omega
        have hFits : Fits (b.now.drop b.told) := fun r hr => by
          obtain ⟨k, hk⟩ := List.getElem?_of_mem hr
          have h1 := hbRows k r hk
          have h2 := (List.getElem?_eq_some_iff.mp hk).1
          rw [List.length_drop] at h2
          omega
        clear hr0 hr0i hdl
        k_dflt (refine cut2 (s := s1) (h₀ := s1.heap) (L := s1.heap.objs.size) (P := fun m nx => LawM nm' dl' nl lg sl cur.told (w' + 1) snv m ∧ m (Str.ofString "y") = some (.int y ty) ∧ m (Str.ofString "rows") = some (.ref rws) ∧ m (Str.ofString "mark") = some mk ∧
          nx = (s1.heap.objs.size + 1 + 1, oA') :: (s1.heap.objs.size + 1, oF) :: (dx, o') :: (sl, listOf svs.toArray sc) :: (rest ++ own)) (fun R Q c => ?_) ?_)
        · obtain ⟨e1, e2, e3, e4, e5, e6, ⟨t7, e7⟩, ⟨t8, e8⟩⟩ := id hM
          k_steps
          dsimp only
          rename Fr _ _ _ _ => FF
          rename News _ _ _ _ => NN
          exact c _ _ _ _ ⟨⟨by walk_at "look", by walk_at "look", by walk_at "look", by walk_at "look", by walk_at "look", by walk_at "look", ⟨_, by walk_at "look"⟩, ⟨_, by walk_at "look"⟩⟩, by walk_at "look", by walk_at "look", by walk_at "look", rfl⟩ FF (kst_newsOf NN (by walk_at "p9"))
        clear hM v2 u0 u1 u2 F9 N9
        rintro h9 tk9 m9 nx ⟨hM, v2, u1, u2, rfl⟩ F9 N9
        have hbsn := hbOk.snap
        k_dflt (refine cut1 (s := s1) (h₀ := s1.heap) (L := s1.heap.objs.size) (P := PDisk (s1.heap.objs.size + 1 + 1) (s1.heap.objs.size + 1) dx sl nm' nl lg rws cur b w' snv oA' oF o' svs sc rest own y ty) (fun R Q c => ?_) ?_)
        · obtain ⟨e1, e2, e3, e4, e5, e6, ⟨t7, e7⟩, ⟨t8, e8⟩⟩ := id hM
          have stay : ¬ (b.snap ≠ none ∧ d0 < b.bs) → ∀ {h tk}, Fr s1.heap s1.heap.objs.size h m9 → News s1.heap s1.heap.objs.size h ((s1.heap.objs.size + 1 + 1, oA') :: (s1.heap.objs.size + 1, oF) :: (dx, o') :: (sl, listOf svs.toArray sc) :: (rest ++ own)) → _ := fun hno {h tk} FF NN => by
            obtain ⟨z1, z2, z3, z4⟩ := hA2 hno
            exact c h tk m9 _ ⟨rest, dl', disk, dvs, n2, fun _ h => h, hSep, hoff, md, hdk, z1 ▸ hRowsD, z2, by omega, hdp, z3, z4, hM, v2, u1, rfl⟩ FF NN
          rcases hbs : b.snap with _ | x
          · rw [hbs] at dM
            cases dM
            k_steps
            dsimp only
            exact stay (by rw [hbs]; simp) (by assumption) (by assumption)
          · rw [hbs] at dM
            obtain ⟨ax, cfv, nS, tt1, tt2, tt3, rfl, mS⟩ := snap_shape dM
            obtain ⟨hx1, hx2⟩ := hbsn x hbs
            by_cases hgt : d0 < b.bs
            · k_steps
              dsimp only
              rename_i r9 hr9 a9 n9 _ _ _ _ m91 _ _ _ _ D9 _ lD l9 _ lL _ F8 N8
              have hT1 : b.told = 1 := hA1 ⟨by rw [hbs]; simp, hgt⟩
              have ltD := kst_ltOf lD.2.2.2.2
              have ltL := kst_ltOf lL.2.2.2.2.2
              have tk1 : b.now.take 1 = [⟨x.t, x.i, #[]⟩] := by
                cases hbn2 : b.now with
                | nil => rw [hbn2] at hx2; cases hx2
                | cons r0 t0 => rw [hbn2] at hx2; cases hx2; rfl
              have hr0 := hbOk.rows 0 _ hx2
              have neA : ∀ (x1 x2 : Obj), ∀ p ∈ ([(l9, x1), (D9, x2)] : Led), p.1 ≠ s1.heap.objs.size + 1 + 1 ∧ p.1 ≠ s1.heap.objs.size + 1 ∧ p.1 ≠ dx ∧ p.1 ≠ sl := fun x1 x2 =>
                List.forall_mem_cons.mpr ⟨⟨Nat.ne_of_gt lL.2.1, Nat.ne_of_gt lL.2.2.1, Nat.ne_of_gt lL.2.2.2.1, Nat.ne_of_gt lL.2.2.2.2.1⟩, List.forall_mem_cons.mpr ⟨⟨Nat.ne_of_gt lD.1, Nat.ne_of_gt lD.2.1, Nat.ne_of_gt lD.2.2.1, Nat.ne_of_gt lD.2.2.2.1⟩, fun _ h => nomatch h⟩⟩
              have neO : ∀ (x1 x2 : Obj), ∀ p ∈ ([(l9, x1), (D9, x2)] : Led), ∀ q ∈ own, q.1 ≠ p.1 := fun x1 x2 =>
                List.forall_mem_cons.mpr ⟨fun q hq => Nat.ne_of_lt (ltL q (List.mem_append.mpr (.inr hq))), List.forall_mem_cons.mpr ⟨fun q hq => Nat.ne_of_lt (ltD q (List.mem_append.mpr (.inr hq))), fun _ h => nomatch h⟩⟩
              have rows1 : RowsOk [⟨x.t, x.i, #[]⟩] b.bs := by
                intro k r hr
                cases k with
                | zero =>
                  cases hr
                  refine ⟨?_, ?_, ?_⟩ <;> (try dsimp only at *) <;> omega
                | succ k => cases hr
              have all1 : b.told = b.now.length → [(⟨x.t, x.i, #[]⟩ : Rw)] = b.now := by
                intro hl
                rw [hT1] at hl
                rw [← tk1, List.take_of_length_le (by omega)]
              have key : ∀ (o2 : Obj) {h tk}, Fr s1.heap s1.heap.objs.size h (fun y => if y = Str.ofString "disk" then some (Value.ref l9) else m9 y) → News s1.heap s1.heap.objs.size h ((l9, listOf [Value.ref D9].toArray 0) :: (D9, o2) :: (s1.heap.objs.size + 1 + 1, oA') :: (s1.heap.objs.size + 1, oF) :: (dx, o') :: (sl, listOf svs.toArray sc) :: (rest ++ own)) →
                  DatAll ((l9, listOf [Value.ref D9].toArray 0) :: (D9, o2) :: rest) [.ref D9] ([(⟨x.t, x.i, #[]⟩ : Rw)].map Rw.dat) → _ := fun o2 {h tk} FF NN hDD =>
                c h tk _ _ ⟨[(l9, listOf [Value.ref D9].toArray 0), (D9, o2)] ++ rest, l9, [⟨x.t, x.i, #[]⟩], [.ref D9], 0, led_right, hSep.grow (neA _ _), off_grow hoff (neO _ _), .head _, hDD, rows1, by rw [hT1]; exact Nat.le_refl _, by show 1 < 100; decide, by show 0 < 1; decide, by rw [hT1, tk1]; rfl, all1, by
                  obtain ⟨m1, m2, m3, m4, m5, m6, ⟨_, m7⟩, ⟨_, m8⟩⟩ := hM
                  exact ⟨by walk_at "look", by walk_at "look", by walk_at "look", by walk_at "look", by walk_at "look", by walk_at "look", ⟨_, by walk_at "look"⟩, ⟨_, by walk_at "look"⟩⟩, by walk_at "look", by walk_at "look", rfl⟩ FF (kst_newsOf NN (by walk_at "p9"))
              exact key _ F8 N8 (.cons (row_mk (n := 0) (.tail _ (.head _))) .nil)
            · k_steps
              dsimp only
              exact stay (by omega) (by assumption) (by assumption)
        clear hM v2 u1 F9 N9
        rintro h9 tk9 m9 nx ⟨R2, dl2, disk2, dvs2, n3, up2, hSep2, hoff2, md2, hd2, hRows2, k1, k2, k3, k4, k5, hM, v2, u1, rfl⟩ F9 N9
        have lenD2 := hd2.length
        rw [List.length_map] at lenD2
        have mR2 := up2 _ mR
        have aR2 := datAll_up aR up2
        have hL2 := hL.up up2
        obtain ⟨e1, e2, e3, e4, e5, e6, ⟨t7, e7⟩, ⟨t8, e8⟩⟩ := id hM
        have endW : ∀ {m' : Str → Option Value} {dl3 : Addr} {dvs3 : List Value} {n4 : Nat} {new : Led}, LawM nm' dl3 nl lg sl cur.told (w' + 1) snv m' → m' (Str.ofString "y") = some (.int y ty) → (dl3, listOf dvs3.toArray n4) ∈ new ++ R2 → DatAll (new ++ R2) dvs3 (b.now.map Rw.dat) →
            (∀ p ∈ new, p.1 ≠ s1.heap.objs.size + 1 + 1 ∧ p.1 ≠ s1.heap.objs.size + 1 ∧ p.1 ≠ dx ∧ p.1 ≠ sl) → (∀ p ∈ new, ∀ q ∈ own, q.1 ≠ p.1) →
            LawT (s1.heap.objs.size + 1 + 1) (s1.heap.objs.size + 1) ns (3 + 3 * ((i + 1 : Nat) : Int)) own y m' ((s1.heap.objs.size + 1 + 1, oA') :: (s1.heap.objs.size + 1, oF) :: (dx, o') :: (sl, listOf svs.toArray sc) :: (new ++ R2) ++ own) :=
          fun {m' dl3 dvs3 n4 new} z1 z2 z3 z4 z6 z7 => by
            have hL3 := hL2.up (rest' := new ++ R2) led_right
            exact ⟨_, ⟨hsS, w' + 1, b.now, cur, nm', dl3, nl, lg, sl, dx, snv, o', oA', oF, tF, va, svs, sc, new ++ R2, ⟨hInvW.mono (show (3 : Int) + 3 * (i : Int) ≤ 3 + 3 * ((i + 1 : Nat) : Int) by omega), by omega⟩, by rw [Int.natCast_add]; exact z1, ⟨hL3.log, hL3.inst, hL3.now, ⟨dvs3, n4, z3, z4⟩, hL3.snap, hL3.saves, hL3.nums⟩, hSep2.grow z6, hoF, hoA, rfl⟩, off_grow hoff2 z7, rfl, _, z2⟩
        by_cases hy0 : 0 < ys.length
        · k_steps
          dsimp only
          rename_i r1 _ _ _ _ _ _ _ _ hq1 _ _ r2 _ _ _ _ _ _ _ _ hq2 _ _ r3 _ _ _ _ _ _ _ _ hq3 _ _ r4 _ _ _ _ _ _ _ _ hq4 _ _ D1 _ lD1 D2 _ lD2 _ F8 N8
          have ltD1 := kst_ltOf lD1.2.2.2.2
          have ltD2 := kst_ltOf lD2.2.2.2.2.2
          have ek : (r3.i - r4.i).toNat = b.told := by omega
          rw [ek] at N8
          have hdd : DatAll R2 (dvs2.take b.told ++ ys) (b.now.map Rw.dat) := by
            have := datAll_app (datAll_take b.told hd2) aR2
            rwa [k4, List.take_append_drop] at this
          refine c _ _ _ _ (endW (new := [(D2, _), (D1, _)]) ?_ (by walk_at "look") (.head _) (datAll_up hdd led_right) ?_ ?_) F8 (kst_newsOf N8 (by walk_at "p9"))
          · obtain ⟨m1, m2, m3, m4, m5, m6, ⟨_, m7⟩, ⟨_, m8⟩⟩ := hM
            exact ⟨by walk_at "look", by walk_at "look", by walk_at "look", by walk_at "look", by walk_at "look", by walk_at "look", ⟨_, by walk_at "look"⟩, ⟨_, by walk_at "look"⟩⟩
          · exact List.forall_mem_cons.mpr ⟨⟨Nat.ne_of_gt lD2.2.1, Nat.ne_of_gt lD2.2.2.1, Nat.ne_of_gt lD2.2.2.2.1, Nat.ne_of_gt lD2.2.2.2.2.1⟩, List.forall_mem_cons.mpr ⟨⟨Nat.ne_of_gt lD1.1, Nat.ne_of_gt lD1.2.1, Nat.ne_of_gt lD1.2.2.1, Nat.ne_of_gt lD1.2.2.2.1⟩, fun _ h => nomatch h⟩⟩
          · exact List.forall_mem_cons.mpr ⟨fun q hq => Nat.ne_of_lt (ltD2 q (List.mem_append.mpr (.inr hq))), List.forall_mem_cons.mpr ⟨fun q hq => Nat.ne_of_lt (ltD1 q (List.mem_append.mpr (.inr hq))), fun _ h => nomatch h⟩⟩
        · k_steps
          dsimp only
          rename Fr _ _ _ _ => FF
          rename News _ _ _ _ => NN
          have hb5 := k5 (by omega)
          rw [hb5] at hd2
          exact c _ _ _ _ (endW (new := []) hM v2 md2 hd2 (fun _ h => nomatch h) (fun _ h => nomatch h)) FF NN
      · subst hw
        obtain ⟨j1, j2, j3, j4, j5, j6, j7, rfl⟩ := id hLD
        have hInst := hL.inst
        have q1 := Int.fmod_eq_emod_of_nonneg y (show (0 : Int) ≤ 251 by decide)
        have q2 := Int.emod_nonneg y (show (251 : Int) ≠ 0 by decide)
        have q3 := Int.emod_lt_of_pos y (show (0 : Int) < 251 by decide)
        have q4 := Int.fmod_eq_emod_of_nonneg y (show (0 : Int) ≤ cur.bs + cur.now.length - 1 - cur.bs + 2 by omega)
        have q5 := Int.emod_nonneg y (show cur.bs + cur.now.length - 1 - cur.bs + 2 ≠ 0 by omega)
        have q6 := Int.emod_lt_of_pos y (show (0 : Int) < cur.bs + cur.now.length - 1 - cur.bs + 2 by omega)
        k_steps
        unfold Held
        rename_i _ oF2 dF _ A1 _ lA1 A2 _ lA2 A3 _ lA3 A4 _ F0 N0 lA4 tlC _ _ hlC cf mC _ _ A5 _ lA5 _ _ _ _ _ tlS _ _ hlS sn mS _ FF NN
        have hSA := mS _ mC
        have N8 : News s1.heap s1.heap.objs.size _ ((dx, lgD j1 j2 j3 j4 j5 j6 j7 sv el (cur.bs + cur.told)) :: (s1.heap.objs.size + 1 + 1, oA') :: (s1.heap.objs.size + 1, oF2) :: (sl, listOf svs.toArray sc) :: (rest ++ (own ++ (tlC ++ tlS)))) := kst_newsOf NN (by walk_at "p9")
        have hC : ∀ p ∈ tlC, (s1.heap.objs.size + 1 + 1 < p.1 ∧ s1.heap.objs.size + 1 < p.1 ∧ dx < p.1 ∧ sl < p.1) ∧ ∀ q ∈ own, q.1 < p.1 := fun p hp =>
          ⟨⟨hlC (s1.heap.objs.size + 1 + 1, oA') (by k_mem) p hp, hlC (s1.heap.objs.size + 1, oF2) (by k_mem) p hp, hlC (dx, _) (by k_mem) p hp, hlC (sl, _) (by k_mem) p hp⟩, fun q hq => hlC q (by simp only [List.mem_cons, List.mem_append, hq, or_true]) p hp⟩
        have hS : ∀ p ∈ tlS, (s1.heap.objs.size + 1 + 1 < p.1 ∧ s1.heap.objs.size + 1 < p.1 ∧ dx < p.1 ∧ sl < p.1) ∧ ∀ q ∈ own, q.1 < p.1 := fun p hp =>
          ⟨⟨hlS (s1.heap.objs.size + 1 + 1, oA') (by k_mem) p hp, hlS (s1.heap.objs.size + 1, oF2) (by k_mem) p hp, hlS (dx, _) (by k_mem) p hp, hlS (sl, _) (by k_mem) p hp⟩, fun q hq => hlS q (by simp only [List.mem_cons, List.mem_append, hq, true_or, or_true]) p hp⟩
        have hnd : ∀ p ∈ ((s1.heap.objs.size + 1 + 1, oA') :: (s1.heap.objs.size + 1, oF2) :: (sl, listOf svs.toArray sc) :: (rest ++ (own ++ (tlC ++ tlS))) : Led), p.1 ≠ dx :=
          List.forall_mem_cons.mpr ⟨p2, List.forall_mem_cons.mpr ⟨p4, List.forall_mem_cons.mpr ⟨fun e => p6 e.symm, List.forall_mem_append.mpr ⟨p9, List.forall_mem_append.mpr ⟨owD, List.forall_mem_append.mpr ⟨fun p hp => Nat.ne_of_gt (hC p hp).1.2.2.1, fun p hp => Nat.ne_of_gt (hS p hp).1.2.2.1⟩⟩⟩⟩⟩⟩
        clear NN N0 F0 lA1 lA2 lA3 lA4 lA5 hlC hlS mS
        k_here
        k_dflt (refine' mu_use (c_restore hLD) ?r9B ?r9F ?r9X ?r9N ?r9n ?r9T ?r9K ?r9P ?r9D ?r9U ?_; (case r9B => k_asm); (case r9F => k_asm); (case r9X => k_asm); (case r9N => exact N8); (case r9n => exact hnd); (case r9T => k_asm); (case r9K => first | exact rfl | assumption); (case r9P => exact ⟨by k_mem, SnapAt.mono' hSA (by walk_at "p9"), by dsimp only; omega, by dsimp only; omega⟩); (case r9D => ktr_room); (case r9U => ktr_units))
        clear N8 hnd FF
        intro r9 tlE o9 h9 tk9 F9 N9 hlE ho9
        obtain ⟨e9, el', ld', ml'⟩ := ho9
        subst e9
        simp only [List.cons_append, List.append_assoc] at N9
        (try k_fold)
        obtain ⟨sdx, cf2, g1', g2', g3', g4', u1', u2', u3', u4', u5', u6', u8', m3, m4, _⟩ := id hSA
        have up5 : ∀ p ∈ tlC ++ tlS, p ∈ rest ++ (own ++ (tlC ++ (tlS ++ tlE))) := fun p hp => by
          rcases List.mem_append.mp hp with h | h <;> simp only [List.mem_append, h, true_or, or_true]
        have m3' := up5 _ m3
        have m4' := up5 _ m4
        clear m3 m4 up5
        k_steps
        rename_i tlR _ _ hlR DR vsR nR mR9 aR9 _ _ DT _ lT DW _ lW _ _ _ F8 N8
        dsimp only
        have hE : ∀ p ∈ tlE, (s1.heap.objs.size + 1 + 1 < p.1 ∧ s1.heap.objs.size + 1 < p.1 ∧ dx < p.1 ∧ sl < p.1) ∧ ∀ q ∈ own, q.1 < p.1 := fun p hp =>
          ⟨⟨hlE (s1.heap.objs.size + 1 + 1, oA') (by k_mem) p hp, hlE (s1.heap.objs.size + 1, oF2) (by k_mem) p hp, hlE (dx, _) (by k_mem) p hp, hlE (sl, _) (by k_mem) p hp⟩, fun q hq => hlE q (by simp only [List.mem_cons, List.mem_append, hq, true_or, or_true]) p hp⟩
        have hR : ∀ p ∈ tlR, (s1.heap.objs.size + 1 + 1 < p.1 ∧ s1.heap.objs.size + 1 < p.1 ∧ dx < p.1 ∧ sl < p.1) ∧ ∀ q ∈ own, q.1 < p.1 := fun p hp =>
          ⟨⟨hlR (s1.heap.objs.size + 1 + 1, oA') (by k_mem) p hp, hlR (s1.heap.objs.size + 1, oF2) (by k_mem) p hp, hlR (dx, _) (by k_mem) p hp, hlR (sl, _) (by k_mem) p hp⟩, fun q hq => hlR q (by simp only [List.mem_cons, List.mem_append, hq, true_or, or_true]) p hp⟩
        have all4 : ∀ p ∈ tlR ++ (tlE ++ (tlC ++ tlS)), (s1.heap.objs.size + 1 + 1 < p.1 ∧ s1.heap.objs.size + 1 < p.1 ∧ dx < p.1 ∧ sl < p.1) ∧ ∀ q ∈ own, q.1 < p.1 :=
          List.forall_mem_append.mpr ⟨hR, List.forall_mem_append.mpr ⟨hE, List.forall_mem_append.mpr ⟨hC, hS⟩⟩⟩
        have ltT := kst_ltOf lT.2.2.2.2
        have ltW := kst_ltOf lW.2.2.2.2.2
        generalize hat : cur.bs + 1 + y.fmod (cur.bs + cur.now.length - 1 - cur.bs + 2) = at_ at *
        have hat1 : cur.bs < at_ := by omega
        have hat2 : at_ ≤ cur.bs + cur.now.length + 1 := by omega
        generalize hbd : #[(y.fmod 251).toNat.toUInt8] = bd at *
        have key : ∀ (o2 : Obj) {h tk m'}, Fr s1.heap s1.heap.objs.size h m' → News s1.heap s1.heap.objs.size h ((DW, listOf [Value.ref DT].toArray 0) :: (DT, o2) :: (dx, o9) :: (s1.heap.objs.size + 1 + 1, oA') :: (s1.heap.objs.size + 1, oF2) :: (sl, listOf svs.toArray sc) :: (rest ++ (own ++ (tlC ++ (tlS ++ (tlE ++ tlR)))))) →
            DatAll [(DW, listOf [Value.ref DT].toArray 0), (DT, o2)] [.ref DT] ([(⟨cur.fresh + 1, at_, #[]⟩ : Rw)].map Rw.dat) → LawM nm' dl' DW lg sl ((1 : Nat) : Int) w' (.ref DR) m' → m' (Str.ofString "y") = some (.int y ty) → _ := fun o2 {h tk m'} FF NN hDD hMM hy => by
          have neA : ∀ p ∈ ([(DW, listOf [Value.ref DT].toArray 0), (DT, o2)] ++ (tlR ++ (tlE ++ (tlC ++ tlS))) : Led), p.1 ≠ s1.heap.objs.size + 1 + 1 ∧ p.1 ≠ s1.heap.objs.size + 1 ∧ p.1 ≠ dx ∧ p.1 ≠ sl :=
            List.forall_mem_cons.mpr ⟨⟨Nat.ne_of_gt lW.2.2.1, Nat.ne_of_gt lW.2.2.2.1, Nat.ne_of_gt lW.2.1, Nat.ne_of_gt lW.2.2.2.2.1⟩, List.forall_mem_cons.mpr ⟨⟨Nat.ne_of_gt lT.2.1, Nat.ne_of_gt lT.2.2.1, Nat.ne_of_gt lT.1, Nat.ne_of_gt lT.2.2.2.1⟩, fun p hp => by
              obtain ⟨⟨a, b, c, d⟩, _⟩ := all4 p hp
              exact ⟨Nat.ne_of_gt a, Nat.ne_of_gt b, Nat.ne_of_gt c, Nat.ne_of_gt d⟩⟩⟩
          have neO : ∀ p ∈ ([(DW, listOf [Value.ref DT].toArray 0), (DT, o2)] ++ (tlR ++ (tlE ++ (tlC ++ tlS))) : Led), ∀ q ∈ own, q.1 ≠ p.1 :=
            List.forall_mem_cons.mpr ⟨fun q hq => Nat.ne_of_lt (ltW q (by simp only [List.mem_append, hq, true_or, or_true])), List.forall_mem_cons.mpr ⟨fun q hq => Nat.ne_of_lt (ltT q (by simp only [List.mem_append, hq, true_or, or_true])), fun p hp q hq => Nat.ne_of_lt ((all4 p hp).2 q hq)⟩⟩
          have hL3 := hL.up (rest' := ([(DW, listOf [Value.ref DT].toArray 0), (DT, o2)] ++ (tlR ++ (tlE ++ (tlC ++ tlS)))) ++ rest) led_right
          refine c h tk m' _ ⟨_, ⟨hsS, w', disk, fresher cur at_ bd, nm', dl', DW, lg, sl, dx, .ref DR, o9, oA', oF2, _, va, svs, sc, ([(DW, listOf [Value.ref DT].toArray 0), (DT, o2)] ++ (tlR ++ (tlE ++ (tlC ++ tlS)))) ++ rest, ⟨(hInv.restore hat1 hat2).mono (show (3 : Int) + 3 * (i : Int) + 3 ≤ 3 + 3 * ((i + 1 : Nat) : Int) by omega), by omega⟩, hMM, ⟨⟨.ref sn, el', [], 0, ld', ?_, .nil, ⟨sn, rfl, SnapAt.mono' hSA ?_⟩⟩, hL3.inst, ⟨[.ref DT], 0, ?_, datAll_up hDD ?_⟩, hL3.disk, datIn_up ho9 ?_, hL3.saves, hL3.nums⟩, hSep.grow neA, dF, hoA, rfl⟩, off_grow hoff neO, rfl, _, hy⟩ FF (kst_newsOf NN (by walk_at "p9"))
          · simp only [List.mem_append, ml', true_or, or_true]
          · intro p hp
            rcases List.mem_append.mp hp with h | h <;> simp only [List.mem_append, h, true_or, or_true]
          · exact .head _
          · exact fun p hp => List.mem_append.mpr (.inl (List.mem_append.mpr (.inl hp)))
          · exact fun p hp => by simp only [List.mem_append, hp, true_or, or_true]
        obtain ⟨m1, m2, m3, m4, m5, m6, ⟨_, m7⟩, ⟨_, m8⟩⟩ := hM
        exact key _ F8 N8 (.cons (row_mk (n := 0) (.tail _ (.head _))) .nil) ⟨by walk_at "look", by walk_at "look", by walk_at "look", by walk_at "look", by walk_at "look", by walk_at "look", ⟨_, (by walk_at "look" : _ = _).trans (opt_int rfl)⟩, ⟨_, by walk_at "look"⟩⟩ (by walk_at "look")
      · subst hw
        obtain ⟨bsd, hd1, hd2, hInvC⟩ := hInv.cut
        obtain ⟨dvs, n2, md, hdk⟩ := hL.disk
        have lenD := hdk.length
        rw [List.length_map] at lenD
        have hdB : disk.length < 100 := by
          have h1 := hInvC.here.last
          have h2 := hInvC.here.bs0
          have h3 : bsd + (disk.length : Int) ≤ 3 + 3 * (i : Int) + 1 := h1
          have h4 : 0 ≤ bsd := h2
          omega
        have hfrC := hInv.fr
        have hRowsD : RowsOk disk bsd := fun k r hr => by
          have h : r.i = bsd + (k : Int) ∧ 1 ≤ r.t ∧ r.t ≤ cur.fresh := hInvC.here.rows k r hr
          omega
        obtain ⟨vsn2, cn2, mn2, hIn2⟩ := hL.nums
        k_steps
        try dsimp only
        rename_i r hr _ _ _ _ _ _ _ hq1 hq2 hq3 tl _ _ hl lg2 dx2 el2 o2 m91 m92 ld m93 n91 n92 _ _ D _ lD _ _ _ _ sl2 _ lS _ _ F8 N8
        have ltD := kst_ltOf lD.2.2.2.2
        have ltS := kst_ltOf lS.2.2.2.2.2
        have hLd : ∀ p ∈ tl, ∀ q ∈ rest, q.1 < p.1 := fun p hp q hq => hl q (by simp only [List.mem_append, List.mem_cons, hq, true_or, or_true]) p hp
        have hOd : ∀ p ∈ tl, ∀ q ∈ own, q.1 < p.1 := fun p hp q hq => hl q (by simp only [List.mem_append, List.mem_cons, hq, or_true]) p hp
        have hA : ∀ p ∈ tl, s1.heap.objs.size + 1 + 1 < p.1 := fun p hp => hl (s1.heap.objs.size + 1 + 1, _) (.head _) p hp
        have hF : ∀ p ∈ tl, s1.heap.objs.size + 1 < p.1 := fun p hp => hl (s1.heap.objs.size + 1, _) (.tail _ (.head _)) p hp
        have n93 : @Ne Nat lg2 dx2 := led_ne N8 (o := instObj 138 dx2) (o' := o2) (by simp only [List.mem_append, List.mem_cons, m91, or_true]) (by simp only [List.mem_append, List.mem_cons, m92, or_true]) (fun e => by obtain ⟨_, _, _, _, _, _, _, q⟩ := ld; rw [q] at e; cases e)
        have sT : ∀ p ∈ tl, p.1 < sl2 := fun p hp => ltS p (by simp only [List.mem_append, hp, or_true])
        have dT : ∀ p ∈ tl, p.1 < D := fun p hp => ltD p (by simp only [List.mem_append, hp, or_true])
        have S2 : Sep (s1.heap.objs.size + 1 + 1) (s1.heap.objs.size + 1) dx2 sl2 ([(D, listOf dvs.toArray 0), (el2, listOf ([] : List Value).toArray 0), (lg2, instObj 138 dx2)] ++ rest) := by
          refine ⟨p1, Nat.ne_of_lt (hA _ m92), Nat.ne_of_lt lS.2.1, Nat.ne_of_lt (hF _ m92), Nat.ne_of_lt lS.2.2.1, Nat.ne_of_lt (sT _ m92), ?_, ?_, ?_, ?_⟩
          · exact List.forall_mem_append.mpr ⟨List.forall_mem_cons.mpr ⟨Nat.ne_of_gt lD.1, List.forall_mem_cons.mpr ⟨Nat.ne_of_gt (hA _ m93), List.forall_mem_cons.mpr ⟨Nat.ne_of_gt (hA _ m91), fun _ h => nomatch h⟩⟩⟩, p7⟩
          · exact List.forall_mem_append.mpr ⟨List.forall_mem_cons.mpr ⟨Nat.ne_of_gt lD.2.1, List.forall_mem_cons.mpr ⟨Nat.ne_of_gt (hF _ m93), List.forall_mem_cons.mpr ⟨Nat.ne_of_gt (hF _ m91), fun _ h => nomatch h⟩⟩⟩, p8⟩
          · exact List.forall_mem_append.mpr ⟨List.forall_mem_cons.mpr ⟨Nat.ne_of_gt (dT _ m92), List.forall_mem_cons.mpr ⟨fun e => n92 e.symm, List.forall_mem_cons.mpr ⟨n93, fun _ h => nomatch h⟩⟩⟩, fun p hp => Nat.ne_of_lt (hLd _ m92 p hp)⟩
          · exact List.forall_mem_append.mpr ⟨List.forall_mem_cons.mpr ⟨Nat.ne_of_lt lS.1, List.forall_mem_cons.mpr ⟨Nat.ne_of_lt (sT _ m93), List.forall_mem_cons.mpr ⟨Nat.ne_of_lt (sT _ m91), fun _ h => nomatch h⟩⟩⟩, fun p hp => Nat.ne_of_lt (ltS p (by simp only [List.mem_append, hp, true_or]))⟩
        refine c _ _ _ _ ⟨_, LawJ.cutp (hInvC.mono (show (3 : Int) + 3 * (i : Int) ≤ 3 + 3 * ((i + 1 : Nat) : Int) by omega)) (by omega) ⟨by walk_at "look", by walk_at "look", by walk_at "look", by walk_at "look", by walk_at "look", by walk_at "look", ⟨_, (by walk_at "look" : _ = _).trans (opt_int (by omega))⟩, ⟨_, by walk_at "look"⟩⟩ ld (by omega) md hdk mn2 hIn2 S2 hoF hoA, ownOff_of ?_, rfl, _, by walk_at "look"⟩ F8 (kst_newsOf N8 ?_)
        · refine List.forall_mem_cons.mpr ⟨owA, List.forall_mem_cons.mpr ⟨owF, List.forall_mem_cons.mpr ⟨fun q hq => Nat.ne_of_lt (hOd _ m92 q hq), List.forall_mem_cons.mpr ⟨fun q hq => Nat.ne_of_lt (ltS q (by simp only [List.mem_append, hq, true_or, or_true])), List.forall_mem_append.mpr ⟨List.forall_mem_cons.mpr ⟨fun q hq => Nat.ne_of_lt (ltD q (by simp only [List.mem_append, hq, true_or, or_true])), List.forall_mem_cons.mpr ⟨fun q hq => Nat.ne_of_lt (hOd _ m93 q hq), List.forall_mem_cons.mpr ⟨fun q hq => Nat.ne_of_lt (hOd _ m91 q hq), fun _ h => nomatch h⟩⟩⟩, fun x hx q hq => ownOff_at hoff x (.tail _ (.tail _ (.tail _ (.tail _ hx)))) q hq⟩⟩⟩⟩⟩
        · intro p hp
          simp only [List.mem_append, List.mem_cons, List.not_mem_nil, or_false] at hp ⊢
          rcases hp with (rfl | rfl | rfl | rfl | (rfl | rfl | rfl) | hp) | hp
          · simp only [true_or, or_true]
          · simp only [true_or, or_true]
          · simp only [m92, or_true]
          · simp only [true_or, or_true]
          · simp only [true_or, or_true]
          · simp only [m93, or_true]
          · simp only [m91, or_true]
          · simp only [hp, true_or, or_true]
          · simp only [hp, true_or, or_true]
      · by_cases hz : (w' : Int) > 0
        · have q1 := Int.fmod_eq_emod_of_nonneg y (show (0 : Int) ≤ (w' : Int) by omega)
          have q2 := Int.emod_nonneg y (show (w' : Int) ≠ 0 by omega)
          have q3 := Int.emod_lt_of_pos y (show (0 : Int) < (w' : Int) by omega)
          have hSv := hL.saves
          refine execs_S (S := fun tk => { s1 with heap := h9, toks := tk }) (elif_no ?t1 (execs_S (elif_no ?t2 (execs_S (elif_no ?t3 (execs_S (elif_no ?t4 (execs_S (elif_no ?t5 (execs_S (elif_yes ?t6 ?key))))))))))) tk9
          case key =>
            clear hw hw2 hw3 hw4
            intro tkK
            try dsimp only
            k_dflt (refine cut1 (s := s1) (h₀ := s1.heap) (L := s1.heap.objs.size) (P := PTold (s1.heap.objs.size + 1 + 1) (s1.heap.objs.size + 1) dx sl nm' dl' nl lg hsS cur w' snv oA' oF o' svs sc rest own y ty tb) (fun R Q c => ?_) ?_)
            · k_steps
              dsimp only
              rename_i b9 hb9 a9 out9 rws9 mk9 n91 vs9 n92 ys9 n93 m91 m92 ae9 m93 ad9 dm9 _ _ _ _ F8 N8
              refine c _ _ _ _ ⟨b9, (y.fmod w').toNat + 1, rws9, mk9, ys9, n93, by rw [← hb9, List.getElem?_tail], by omega, m93, ad9, dm9, hM.keep (fun z hz => ?_), by walk_at "look", by walk_at "look", by walk_at "look", by walk_at "look", rfl⟩ F8 (kst_newsOf N8 (by walk_at "p9"))
              (revert z hz; refine keep8 ?_ ?_ ?_ ?_ ?_ ?_ ?_ ?_ <;> walk_at "look9")
            clear e1 e2 e3 e4 e5 e6 e7 e8 v1 v2 v3 v4 F9 N9 hSv
            rintro h9 tk9 m9 nx ⟨b, j, rws, mk, ys, n93, hb, hj, mR, aR, dM, hM, v2, v3, u1, u2, rfl⟩ F9 N9
            have hbOk := hInv.ok b (List.mem_of_getElem? hb)
            have hInst := hL.inst
            have hSn := hL.snap
            obtain ⟨j1, j2, j3, j4, j5, j6, j7, rfl⟩ := id hLD
            k_dflt (refine cut1 (s := s1) (h₀ := s1.heap) (L := s1.heap.objs.size) (P := PSnap (s1.heap.objs.size + 1 + 1) (s1.heap.objs.size + 1) dx sl nm' dl' nl lg el rws (3 + 3 * (i : Int)) hsS disk cur w' oA' oF svs sc rest own y ty tb) (fun R Q c => ?_) ?_)
            · obtain ⟨e1, e2, e3, e4, e5, e6, ⟨t7, e7⟩, ⟨t8, e8⟩⟩ := id hM
              have stay : ∀ {h tk m' o2}, LogD o2 sv el (cur.bs + cur.told) → (∀ z ∈ lawVars, m' z = m9 z) → m' (Str.ofString "y") = m9 (Str.ofString "y") → m' (Str.ofString "base") = m9 (Str.ofString "base") → m' (Str.ofString "rows") = m9 (Str.ofString "rows") → Fr s1.heap s1.heap.objs.size h m' → News s1.heap s1.heap.objs.size h ((dx, o2) :: (s1.heap.objs.size + 1 + 1, oA') :: (s1.heap.objs.size + 1, oF) :: (sl, listOf svs.toArray sc) :: (rest ++ own)) → _ :=
                fun {h tk m' o2} k0 k1 k2 k3 k4 FF NN => c h tk m' _ ⟨cur.snap, sv, snv, o2, hInv, k0, aS, hSn, hM.keep k1, k2.trans v2, k3.trans v3, k4.trans u1, rfl⟩ FF NN
              rcases hbs : b.snap with _ | x
              · rw [hbs] at dM
                cases dM
                k_steps
                dsimp only
                exact stay hLD (fun _ _ => rfl) rfl rfl rfl (by assumption) (by assumption)
              · rw [hbs] at dM
                obtain ⟨ax, cfv, nS, ta, tb', tc, rfl, mS⟩ := snap_shape dM
                obtain ⟨hx1, hx2⟩ := hbOk.snap x hbs
                have hbb := hbOk.bs0
                have hbl := hbOk.last
                have hbn := hbOk.ne
                have r1 := Int.fmod_eq_emod_of_nonneg y (show (0 : Int) ≤ 4 by decide)
                rcases hcs : cur.snap with _ | z
                · have hSn' := hSn
                  rw [hcs] at hSn'
                  cases hSn'
                  k_steps
                  · try dsimp only
                    rename ite _ _ _ => hq
                    rw [if_neg (by rw [hcs]; simp)] at hq
                    exact stay hq (fun _ _ => rfl) rfl rfl rfl (by assumption) (by assumption)
                  · dsimp only
                    exact stay hLD (fun _ _ => rfl) rfl rfl rfl (by assumption) (by assumption)
                · have hSn' := hSn
                  rw [hcs] at hSn'
                  obtain ⟨az, cfv2, nS2, ta2, tb2, tc2, rfl, mS2⟩ := snap_shape hSn'
                  k_steps
                  · try dsimp only
                    rename ite _ _ _ => hq
                    rename z.i = x.i => hzx
                    rw [if_pos (by rw [hcs, Option.map_some, hzx])] at hq
                    (rename Fr _ _ _ _ => FF)
                    (rename News _ _ _ _ => NN)
                    exact c _ _ _ _ ⟨none, .none, .none, _, hInv.unsnap hb hj hbs hcs hzx, hq, rfl, .none, by
                      obtain ⟨m1, m2, m3, m4, m5, m6, ⟨_, m7⟩, ⟨_, m8⟩⟩ := hM
                      exact ⟨by walk_at "look", by walk_at "look", by walk_at "look", by walk_at "look", by walk_at "look", by walk_at "look", ⟨_, by walk_at "look"⟩, ⟨_, by walk_at "look"⟩⟩, by walk_at "look", by walk_at "look", by walk_at "look", rfl⟩ FF NN
                  · try dsimp only
                    rename ite _ _ _ => hq
                    rename z.i ≠ x.i => hzx
                    rw [if_neg (by rw [hcs, Option.map_some]; simpa using hzx)] at hq
                    exact stay hq (fun _ _ => rfl) rfl rfl rfl (by assumption) (by assumption)
                  · try dsimp only
                    exact stay hLD (fun _ _ => rfl) rfl rfl rfl (by assumption) (by assumption)
            clear hM v2 v3 u1 u2 F9 N9 hLD hSn aS
            rintro h9 tk9 m9 nx ⟨S', sv', snv', o2, hInv2, hLD2, aS2, hSn2, hM, v2, v3, u1, rfl⟩ F9 N9
            have hlenY := aR.length
            rw [List.length_map, List.length_drop] at hlenY
            have hagr := (hInv.agree j b hb).1
            have hfr := hInv.fr
            have hbRows : RowsOk (b.now.drop b.told) (b.bs + b.told) := fun k r hr => by
              rw [List.getElem?_drop] at hr
              have := hbOk.rows _ r hr
              omega
            have hbl := hbOk.last
            have hbb := hbOk.bs0
            have hbn := hbOk.ne
            have hbt := hbOk.told2
            obtain ⟨e1, e2, e3, e4, e5, e6, ⟨t7, e7⟩, ⟨t8, e8⟩⟩ := id hM
            obtain ⟨j1, j2, j3, j4, j5, j6, j7, rfl⟩ := id hLD2
            have endT : ∀ {m' : Str → Option Value} {o3 : Obj} {cur3 : St} {new : Led}, Inv (3 + 3 * (i : Int)) hsS w' disk cur3 → LawM nm' dl' nl lg sl cur3.told w' snv' m' → m' (Str.ofString "y") = some (.int y ty) → LawL ns hsS disk cur3 nm' dl' nl lg dx snv' o3 svs (new ++ rest) → cur3.fresh = cur.fresh →
                (∀ p ∈ new, p.1 ≠ s1.heap.objs.size + 1 + 1 ∧ p.1 ≠ s1.heap.objs.size + 1 ∧ p.1 ≠ dx ∧ p.1 ≠ sl) → (∀ p ∈ new, ∀ q ∈ own, q.1 ≠ p.1) →
                LawT (s1.heap.objs.size + 1 + 1) (s1.heap.objs.size + 1) ns (3 + 3 * ((i + 1 : Nat) : Int)) own y m' ((s1.heap.objs.size + 1 + 1, oA') :: (s1.heap.objs.size + 1, oF) :: (dx, o3) :: (sl, listOf svs.toArray sc) :: (new ++ rest) ++ own) :=
              fun {m' o3 cur3 new} z1 z2 z3 z4 z5 z6 z7 => ⟨_, ⟨hsS, w', disk, cur3, nm', dl', nl, lg, sl, dx, snv', o3, oA', oF, tF, va, svs, sc, new ++ rest, ⟨z1.mono (show (3 : Int) + 3 * (i : Int) ≤ 3 + 3 * ((i + 1 : Nat) : Int) by omega), by omega⟩, z2, z4, hSep.grow z6, by rw [z5]; exact hoF, hoA, rfl⟩, off_grow hoff z7, rfl, _, z3⟩
            have hL2 : LawL ns hsS disk { cur with snap := S' } nm' dl' nl lg dx snv' (lgD j1 j2 j3 j4 j5 j6 j7 sv' el (cur.bs + cur.told)) svs rest := ⟨⟨sv', el, vs, nE, hLD2, mE, aE, aS2⟩, hL.inst, hL.now, hL.disk, hSn2, hL.saves, hL.nums⟩
            have hdl : (cur.now.drop cur.told).length = cur.now.length - cur.told := List.length_drop
            by_cases hy0 : 0 < ys.length
            · have r1 := Int.fmod_eq_emod_of_nonneg (y.fdiv 3) (show (0 : Int) ≤ (ys.length : Int) by omega)
              have r2 := Int.emod_nonneg (y.fdiv 3) (show (ys.length : Int) ≠ 0 by omega)
              have r3 := Int.emod_lt_of_pos (y.fdiv 3) (show (0 : Int) < (ys.length : Int) by omega)
              k_steps
              unfold Held
              rename_i r hr ar nr ta tb' tc td mr hq1 hq2 hq3 _ _ _ tl o3 _ _ hl ho D _ F8 N8 l8
              have hp := hr
              rw [List.getElem?_drop] at hp
              have hiff := hInv2.tellsIff (S := S') hb hp
              have neA : ∀ p ∈ tl, p.1 ≠ s1.heap.objs.size + 1 + 1 ∧ p.1 ≠ s1.heap.objs.size + 1 ∧ p.1 ≠ dx ∧ p.1 ≠ sl := fun p hp =>
                ⟨Nat.ne_of_gt (hl (s1.heap.objs.size + 1 + 1, _) (.tail _ (.head _)) p hp), Nat.ne_of_gt (hl (s1.heap.objs.size + 1, _) (.tail _ (.tail _ (.head _))) p hp), Nat.ne_of_gt (hl (dx, _) (.head _) p hp), Nat.ne_of_gt (hl (sl, _) (.tail _ (.tail _ (.tail _ (.head _)))) p hp)⟩
              have neO : ∀ p ∈ tl, ∀ q ∈ own, q.1 ≠ p.1 := fun p hp q hq => Nat.ne_of_lt (hl q (by simp only [List.mem_append, List.mem_cons, hq, or_true]) p hp)
              have hrow : DatIn rest (.ref ar) r.dat := row_mk mr
              refine row_in (rs := cur.now.drop cur.told) (r := r) N8 (List.mem_cons_self) (datAll_up (by rw [Int.toNat_natCast]; exact datAll_drop _ hnw) (by walk_at "p9")) (datIn_up hrow (by walk_at "p9")) (by ktr_units) ?_
              by_cases hin : r ∈ cur.now.drop cur.told
              · rw [decide_eq_true hin]
                obtain ⟨k1, k2, k3, k4⟩ := hInv2.told hb hj hp hin
                rw [if_pos (hiff.mpr hin)] at ho
                obtain ⟨el', ld', ml'⟩ := ho
                have k2' : r.i = cur.bs + ((b.told + (ys.length - 1 - (y.fdiv 3).fmod ys.length).toNat : Nat) : Int) := k2
                k_steps
                try dsimp only
                (rename Fr _ _ _ _ => FF)
                (rename News _ _ _ _ => NN)
                have hcast : r.i + 1 - cur.bs = (((b.told + (ys.length - 1 - (y.fdiv 3).fmod ys.length).toNat + 1 : Nat) : Nat) : Int) := by omega
                refine c _ _ _ _ (endT (new := tl) k1 ⟨by walk_at "look", by walk_at "look", by walk_at "look", by walk_at "look", by walk_at "look", by walk_at "look", ⟨_, (by walk_at "look" : _ = _).trans (opt_int hcast)⟩, ⟨_, by walk_at "look"⟩⟩ (by walk_at "look") ?_ rfl neA neO) FF (kst_newsOf NN (by walk_at "p9"))
                have hL3 := hL2.up (rest' := tl ++ rest) led_right
                refine ⟨⟨sv', el', _, 0, ?_, led_left _ ml', ?_, aS2.up led_right⟩, hL3.inst, hL3.now, hL3.disk, hL3.snap, hL3.saves, hL3.nums⟩
                · show LogD o3 sv' el' (cur.bs + (((b.told + (ys.length - 1 - (y.fdiv 3).fmod ys.length).toNat + 1 : Nat) : Nat) : Int))
                  rw [← hcast, show cur.bs + (r.i + 1 - cur.bs) = r.i + 1 by omega]
                  exact ld'
                · show EntAll (tl ++ rest) _ (cur.now.drop (b.told + (ys.length - 1 - (y.fdiv 3).fmod ys.length).toNat + 1))
                  have := (aE.drop (r.i + 1 - (cur.bs + cur.told)).toNat).up (news' := tl ++ rest) led_right
                  rw [List.drop_drop] at this
                  have k4' : cur.told ≤ b.told + (ys.length - 1 - (y.fdiv 3).fmod ys.length).toNat := k4
                  rwa [show b.told + (ys.length - 1 - (y.fdiv 3).fmod ys.length).toNat + 1 = cur.told + (r.i + 1 - (cur.bs + cur.told)).toNat by omega]
              · rw [decide_eq_false hin]
                rw [if_neg (fun z => hin (hiff.mp z))] at ho
                k_steps
                try dsimp only
                (rename Fr _ _ _ _ => FF)
                (rename News _ _ _ _ => NN)
                refine c _ _ _ _ (endT (new := tl) hInv2 (hM.keep (fun z hz => ?_)) (by walk_at "look") ?_ rfl neA neO) FF (kst_newsOf NN (by walk_at "p9"))
                · (revert z hz; refine keep8 ?_ ?_ ?_ ?_ ?_ ?_ ?_ ?_ <;> walk_at "look9")
                · have hL3 := hL2.up (rest' := tl ++ rest) led_right
                  exact ⟨⟨sv', el, vs, nE, ho, led_right _ mE, aE.up led_right, aS2.up led_right⟩, hL3.inst, hL3.now, hL3.disk, hL3.snap, hL3.saves, hL3.nums⟩
            · k_steps
              try dsimp only
              (rename Fr _ _ _ _ => FF)
              (rename News _ _ _ _ => NN)
              exact c _ _ _ _ (endT (new := []) hInv2 hM v2 hL2 rfl (fun _ h => nomatch h) (fun _ h => nomatch h)) FF (kst_newsOf NN (by walk_at "p9"))
          all_goals (
            intro tk
            try dsimp only
            k_steps
            all_goals first | exact ⟨rfl, _, rfl⟩ | exact ⟨decide_eq_false (by omega), _, rfl⟩ | exact ⟨decide_eq_true (by omega), _, rfl⟩ | exact ⟨beq_eq_false_iff_ne.mpr (by omega), _, rfl⟩ | (exfalso; omega))
        · have hw9 : (way = 4 ∧ ¬ ((w' : Int) < svs.length)) ∨ way = 5 ∨ (way = 7 ∧ y.fmod 3 ≠ 0) := by omega
          clear hw hw2 hw3 hw4
          have e9 : ∀ {h tk}, Fr s1.heap s1.heap.objs.size h m9 → News s1.heap s1.heap.objs.size h ((s1.heap.objs.size + 1 + 1, oA') :: (s1.heap.objs.size + 1, oF) :: (dx, o') :: (sl, listOf svs.toArray sc) :: (rest ++ own)) → _ := fun {h tk} FF NN => c h tk _ _ (hT _ (fun z hz => rfl) rfl) FF NN
          rcases hw9 with ⟨rfl, hw9⟩ | rfl | ⟨rfl, hw9⟩
          · k_steps
            dsimp only
            exact e9 (by assumption) (by assumption)
          · k_steps
            dsimp only
            exact e9 (by assumption) (by assumption)
          · k_steps
            dsimp only
            exact e9 (by assumption) (by assumption)
    clear hM v1 v2 v3 v4 F9 N9 hL hSep hoF hoA hInv hLen hnw hRows kr
    clear hoff
    rintro h9 tk9 m9 nx ⟨nx', ⟨hsS, w', disk, cur, nm', dl', nl, lg, sl, dx, snv, o', oA', oF, tF, va, svs, sc, rest, ⟨hInv, hLen⟩, hM, hL, hSep, hoF, hoA, rfl⟩, hoff, rfl, ty, e0⟩ F9 N9
    have hJ : LawJ (s1.heap.objs.size + 1 + 1) (s1.heap.objs.size + 1) ns (3 + 3 * ((i + 1 : Nat) : Int)) m9 ((s1.heap.objs.size + 1 + 1, oA') :: (s1.heap.objs.size + 1, oF) :: (dx, o') :: (sl, listOf svs.toArray sc) :: rest) :=
      ⟨hsS, w', disk, cur, nm', dl', nl, lg, sl, dx, snv, o', oA', oF, tF, va, svs, sc, rest, ⟨hInv, hLen⟩, hM, hL, hSep, hoF, hoA, rfl⟩
    obtain ⟨e1, e2, e3, e4, e5, e6, ⟨t7, e7⟩, ⟨t8, e8⟩⟩ := hM
    have hOk := hInv.tells (by omega)
    obtain ⟨⟨sv, el, vs, nE, ⟨j1, j2, j3, j4, j5, j6, j7, rfl⟩, mE, aE, aS⟩, hInst, ⟨nvs, n1, mw, hnw⟩, ⟨dvs, n2, md, hdk⟩, hSn, _, _⟩ := hL
    obtain ⟨LL, hLL⟩ : ∃ LL : Led, LL = (s1.heap.objs.size + 1 + 1, oA') :: (s1.heap.objs.size + 1, oF) :: (dx, lgD j1 j2 j3 j4 j5 j6 j7 sv el (cur.bs + cur.told)) :: (sl, listOf svs.toArray sc) :: rest ++ own := ⟨_, rfl⟩
    rw [← hLL] at N9
    have up : ∀ p ∈ rest, p ∈ LL := fun p hp => by rw [hLL]; exact List.mem_append.mpr (.inl (.tail _ (.tail _ (.tail _ (.tail _ hp)))))
    have hLog : LogAt LL lg dx sv el (cur.bs + cur.told) := ⟨j1, j2, j3, j4, j5, j6, j7, up _ hInst, by rw [hLL]; exact List.mem_append.mpr (.inl (.tail _ (.tail _ (.head _))))⟩
    have hPre : LogAt LL lg dx sv el (cur.bs + cur.told) ∧ (el, listOf vs.toArray nE) ∈ LL ∧ EntAll LL vs (cur.now.drop cur.told) ∧ SnapIn LL sv cur.snap ∧ (nl, listOf nvs.toArray n1) ∈ LL ∧ DatAll LL nvs (cur.now.map Rw.dat) ∧
        (dl', listOf dvs.toArray n2) ∈ LL ∧ DatAll LL dvs (disk.map Rw.dat) ∧ DatIn LL snv (optDat cur.snap) ∧ 0 ≤ y ∧ y < 300000 :=
      ⟨hLog, up _ mE, aE.up up, aS.up up, up _ mw, datAll_up hnw up, up _ md, datAll_up hdk up, datIn_up hSn up, y3, y4⟩
    k_steps
    rename News _ _ _ _ => NN
    refine InvEndG.intro (by assumption) NN hJ hoff (fun p hp => ?_) (fun p hp => ?_)
    · rw [hLL]
      exact List.mem_append.mpr (.inl (List.mem_append.mpr (.inl hp)))
    · rw [hLL]
      exact List.mem_append.mpr (.inl (List.mem_append.mpr (.inr hp)))
  · rintro u nx h tk hJ F3 N3
    rename HoldMark => hMk7
    clear hr9
    k_steps
end

end
theorem law_holds.tw8441880690091102137 : True := trivial
theorem law_holds.tw1341266762083198811 : True := trivial
theorem law_holds.tw11803358882649189518 : True := trivial
theorem law_holds.tw15191720212996534143 : True := trivial
theorem law_holds.tw18326849912455186884 : True := trivial
theorem law_holds.tw11027446948787134436 : True := trivial
theorem law_holds.tw15732109348078318572 : True := trivial
theorem law_holds.tw3912811242725288453 : True := trivial
theorem law_holds.tw11625900857008200698 : True := trivial
theorem law_holds.tw15472126771306010800 : True := trivial
theorem law_holds.tw8765428355355776791 : True := trivial
theorem law_holds.tw17273243488114572446 : True := trivial
theorem law_holds.tw17974257514489008736 : True := trivial
theorem law_holds.tw1819975233463548508 : True := trivial
theorem law_holds.tw4515466672771955728 : True := trivial
theorem law_holds.tw15274831704391544125 : True := trivial
theorem law_holds.tw5212653520564569363 : True := trivial
theorem law_holds.tw1622690429015379626 : True := trivial
theorem law_holds.tw15150646450996357022 : True := trivial
theorem law_holds.tw13316601462362616555 : True := trivial
theorem law_holds.tw11539917129522011285 : True := trivial
theorem law_holds.tw4030767218360268280 : True := trivial
theorem law_holds.tw11633083819707477107 : True := trivial
theorem law_holds.tw10264638600885302300 : True := trivial
theorem law_holds.tw15448297888555860652 : True := trivial
theorem law_holds.tw18269650602155537469 : True := trivial
theorem law_holds.tw8285764192309689115 : True := trivial
theorem law_holds.tw2143268655074302082 : True := trivial
theorem law_holds.tw2856731137302751260 : True := trivial
theorem law_holds.tw15162217921772873613 : True := trivial
theorem law_holds.tw10958410103948607464 : True := trivial
theorem law_holds.tw12835091436910803158 : True := trivial
theorem law_holds.tw16805829885119392726 : True := trivial
theorem law_holds.tw8785698371604719795 : True := trivial
theorem law_holds.tw13028658284911697911 : True := trivial
theorem law_holds.tw14953074670389275911 : True := trivial
theorem law_holds.tw5640673133297012132 : True := trivial
theorem law_holds.tw14385925486924208373 : True := trivial
theorem law_holds.tw18340598423539479173 : True := trivial
theorem law_holds.tw3801589014035127680 : True := trivial
theorem law_holds.tw3186734533307500241 : True := trivial
theorem law_holds.tw2322801206320994539 : True := trivial
theorem law_holds.tw10465528174321978529 : True := trivial
theorem law_holds.tw17253903310271361901 : True := trivial
theorem law_holds.tw4889031023730116350 : True := trivial
theorem law_holds.tw11484002064277903863 : True := trivial
theorem law_holds.tw1989176631692091739 : True := trivial
theorem law_holds.tw12831907817818079685 : True := trivial
theorem law_holds.tw17713402740875732926 : True := trivial
theorem law_holds.tw15802469936163623734 : True := trivial
theorem law_holds.tw4464252984393422682 : True := trivial
theorem law_holds.tw6667284449218939238 : True := trivial
theorem law_holds.tw6896717019858035522 : True := trivial
theorem law_holds.tw4439653461905209652 : True := trivial
theorem law_holds.tw13780023080261437657 : True := trivial
theorem law_holds.tw2124134355350193313 : True := trivial
theorem law_holds.tw1928719863018725356 : True := trivial
theorem law_holds.tw2475230577751417141 : True := trivial
theorem law_holds.tw3682559726232862161 : True := trivial
theorem law_holds.tw13766487248619392586 : True := trivial
theorem law_holds.tw3158129796062787159 : True := trivial
theorem law_holds.tw9069877914133315304 : True := trivial
theorem law_holds.tw9843604407834444796 : True := trivial
theorem law_holds.tw7497986649931050792 : True := trivial
theorem law_holds.tw16446244600992064566 : True := trivial
theorem law_holds.tw8191475993861738794 : True := trivial
theorem law_holds.tw1377309892636839040 : True := trivial
theorem law_holds.tw13956741780833797525 : True := trivial
theorem law_holds.tw14983226153234331074 : True := trivial
theorem law_holds.tw10566571302883470556 : True := trivial
theorem law_holds.tw9184033795430018204 : True := trivial
theorem law_holds.tw4370086069003782432 : True := trivial
theorem law_holds.tw2643271747718453845 : True := trivial
theorem law_holds.tw3910120701321347557 : True := trivial
theorem law_holds.tw18254337876149969668 : True := trivial
theorem law_holds.tw6723812968561706957 : True := trivial
theorem law_holds.tw16461882675039125421 : True := trivial
theorem law_holds.tw6727219029552735585 : True := trivial
theorem law_holds.tw10024239376800412576 : True := trivial
theorem law_holds.tw7304591109411159013 : True := trivial
theorem law_holds.tw12115171985352901274 : True := trivial
theorem law_holds.tw10188763426450519768 : True := trivial
theorem law_holds.tw15883345262158282383 : True := trivial
theorem law_holds.tw11846676642670509255 : True := trivial
theorem law_holds.tw13280740594461564331 : True := trivial
theorem law_holds.tw7722997479763263290 : True := trivial
theorem law_holds.tw15617896438947887921 : True := trivial
theorem law_holds.tw498061464947678834 : True := trivial
theorem law_holds.tw576407869801174206 : True := trivial
theorem law_holds.tw14390095281932903014 : True := trivial
theorem law_holds.tw10368410895845634921 : True := trivial
theorem law_holds.tw9682718004065560343 : True := trivial
theorem law_holds.tw2558664710541493025 : True := trivial
theorem law_holds.tw12296726922439171297 : True := trivial
theorem law_holds.tw8720880381367431298 : True := trivial
theorem law_holds.tw3850404396616230974 : True := trivial
theorem law_holds.tw4581845663705801772 : True := trivial
theorem law_holds.tw9992725586745946429 : True := trivial
theorem law_holds.tw1762888911704233025 : True := trivial
theorem law_holds.tw2503670479209048990 : True := trivial
theorem law_holds.tw2269544990204364226 : True := trivial
theorem law_holds.tw6674946733510290875 : True := trivial
theorem law_holds.tw926570990666696690 : True := trivial
theorem law_holds.tw519298541982818421 : True := trivial
theorem law_holds.tw15014403891855920072 : True := trivial
theorem law_holds.tw784011647948385275 : True := trivial
theorem law_holds.tw9255152265573255198 : True := trivial
theorem law_holds.tw18234560199702728603 : True := trivial
theorem law_holds.tw12134408205421670959 : True := trivial
theorem law_holds.tw123295346585929383 : True := trivial
theorem law_holds.tw8984712037535005518 : True := trivial
theorem law_holds.tw15806970514647361693 : True := trivial
theorem law_holds.tw13709617746848070560 : True := trivial
theorem law_holds.tw1670043908289496885 : True := trivial
theorem law_holds.tw2387193687640843687 : True := trivial
theorem law_holds.tw8909828626151137519 : True := trivial
theorem law_holds.tw7696488724909661519 : True := trivial
theorem law_holds.tw5769158387606399586 : True := trivial
theorem law_holds.tw5112083995522966620 : True := trivial
theorem law_holds.tw14462753142839830455 : True := trivial
theorem law_holds.tw10371022188087798493 : True := trivial
theorem law_holds.tw1905533677188600702 : True := trivial
theorem law_holds.tw6861490101519172755 : True := trivial
theorem law_holds.tw9168033884955339765 : True := trivial
theorem law_holds.tw8553002610548859549 : True := trivial
theorem law_holds.tw12116493165278983582 : True := trivial
theorem law_holds.tw3756308257209627903 : True := trivial
theorem law_holds.tw11100686419730198450 : True := trivial
theorem law_holds.tw14822640431511872941 : True := trivial
theorem law_holds.tw8970147916757833333 : True := trivial
theorem law_holds.tw6776455111828631412 : True := trivial
theorem law_holds.tw15527639110640922598 : True := trivial
theorem law_holds.tw1394501464774690156 : True := trivial
theorem law_holds.tw7407239408455114201 : True := trivial
theorem law_holds.tw11182679623053108816 : True := trivial
theorem law_holds.tw12626328134170644701 : True := trivial
theorem law_holds.tw1689763614830377041 : True := trivial
theorem law_holds.tw1035469204868569938 : True := trivial
theorem law_holds.tw14883556706271630602 : True := trivial
theorem law_holds.tw10609929442622069884 : True := trivial
theorem law_holds.tw14988988175077273356 : True := trivial
theorem law_holds.tw11781800970755023335 : True := trivial
theorem law_holds.tw2578278018795888234 : True := trivial
theorem law_holds.tw12303009252429188658 : True := trivial
theorem law_holds.tw13402424001964919149 : True := trivial
theorem law_holds.tw5274592661964301406 : True := trivial
theorem law_holds.tw4004520673234814696 : True := trivial
theorem law_holds.tw6159533029260741167 : True := trivial
theorem law_holds.tw15352839923633478061 : True := trivial
theorem law_holds.tw1724926542741425601 : True := trivial
theorem law_holds.tw11764581739189218997 : True := trivial
theorem law_holds.tw11966672015165255308 : True := trivial
theorem law_holds.tw6911747868599837429 : True := trivial
theorem law_holds.tw6860709855171689206 : True := trivial
theorem law_holds.tw15006436103509636135 : True := trivial
theorem law_holds.tw575232530192455986 : True := trivial
theorem law_holds.tw3253568177066640346 : True := trivial
theorem law_holds.tw9207643191828677137 : True := trivial
theorem law_holds.tw2075624079617657780 : True := trivial
theorem law_holds.tw11924911360389889469 : True := trivial
theorem law_holds.tw11126432536435168541 : True := trivial
theorem law_holds.tw179590077315354965 : True := trivial
theorem law_holds.tw11223184984439025696 : True := trivial
theorem law_holds.tw2136269947727277649 : True := trivial
theorem law_holds.tw8369274380968253667 : True := trivial
theorem law_holds.tw17255088995462705879 : True := trivial
theorem law_holds.tw745255978533919091 : True := trivial
theorem law_holds.tw10242277825702978295 : True := trivial
theorem law_holds.tw3426384778480675251 : True := trivial
theorem law_holds.tw8514742172934523775 : True := trivial
theorem law_holds.tw13431030151845061361 : True := trivial
theorem law_holds.tw14545874151571354728 : True := trivial
theorem law_holds.tw16106779387088534511 : True := trivial
theorem law_holds.tw6317479115527610633 : True := trivial
theorem law_holds.tw13650905803964671038 : True := trivial
theorem law_holds.tw602461330855297101 : True := trivial
theorem law_holds.tw16470317323979864763 : True := trivial
theorem law_holds.tw4614512636035447770 : True := trivial
theorem law_holds.tw11677100312832694166 : True := trivial
theorem law_holds.tw17942709131360195518 : True := trivial
theorem law_holds.tw7019463264422422977 : True := trivial
theorem law_holds.tw3366817510852727610 : True := trivial
theorem law_holds.tw8857742495270377987 : True := trivial
theorem law_holds.tw9849722394096787677 : True := trivial
theorem law_holds.tw15607887362523206001 : True := trivial
theorem law_holds.tw17253691774821329096 : True := trivial
theorem law_holds.tw4593294709026258786 : True := trivial
theorem law_holds.tw16760957895259694429 : True := trivial
theorem law_holds.tw2882485010973397480 : True := trivial
theorem law_holds.tw4916342969005030805 : True := trivial
theorem law_holds.tw9552830710289189752 : True := trivial
theorem law_holds.tw16099233806120587224 : True := trivial
theorem law_holds.tw12889673554181485818 : True := trivial
theorem law_holds.tw2102315897755806987 : True := trivial
theorem law_holds.tw1285599515219305098 : True := trivial
theorem law_holds.tw3253820488102484341 : True := trivial
theorem law_holds.tw4818577856007422655 : True := trivial
theorem law_holds.tw3742325753681652743 : True := trivial
theorem law_holds.tw14828999820898988419 : True := trivial
theorem law_holds.tw4037582482628031876 : True := trivial
theorem law_holds.tw676263390381983339 : True := trivial
theorem law_holds.tw12223724995276690173 : True := trivial
theorem law_holds.tw9013377322688217293 : True := trivial
theorem law_holds.tw631266038723830076 : True := trivial
theorem law_holds.tw4992725456586698614 : True := trivial
theorem law_holds.tw7185456241796803578 : True := trivial
theorem law_holds.tw724200737284857819 : True := trivial
theorem law_holds.tw11098625913536864229 : True := trivial
theorem law_holds.tw7221428835167493151 : True := trivial
theorem law_holds.tw16720094985154256693 : True := trivial
theorem law_holds.tw9288214680346807717 : True := trivial
theorem law_holds.tw1385162719727133579 : True := trivial
theorem law_holds.tw15694993059591697976 : True := trivial
theorem law_holds.tw8652346329174877282 : True := trivial
theorem law_holds.tw13882729330811710610 : True := trivial
theorem law_holds.tw2152083551845799040 : True := trivial
theorem law_holds.tw11347954631545130290 : True := trivial
theorem law_holds.tw17237755526102222789 : True := trivial
theorem law_holds.tw17993387198741990920 : True := trivial
theorem law_holds.tw447027507633508388 : True := trivial
theorem law_holds.tw7820799176418779761 : True := trivial
theorem law_holds.tw14904137174637212347 : True := trivial
theorem law_holds.tw13536078969547264968 : True := trivial
theorem law_holds.tw10841264019214440115 : True := trivial
theorem law_holds.tw7636989558263936852 : True := trivial
theorem law_holds.tw3776956092104397036 : True := trivial
theorem law_holds.tw8266603773606604290 : True := trivial
theorem law_holds.tw11690447701083486646 : True := trivial
theorem law_holds.tw6709271908398517637 : True := trivial
theorem law_holds.tw17911580528928914924 : True := trivial
theorem law_holds.tw11097158420108258118 : True := trivial
theorem law_holds.tw14571795756577361901 : True := trivial
theorem law_holds.tw15661869461025623997 : True := trivial
theorem law_holds.tw11609493526922420660 : True := trivial
theorem law_holds.tw10007947361888340627 : True := trivial
theorem law_holds.tw12476058986133298565 : True := trivial
theorem law_holds.tw718173064312146323 : True := trivial
theorem law_holds.tw8249079356659094474 : True := trivial
theorem law_holds.tw11404014056486942332 : True := trivial
theorem law_holds.tw11289095316329951393 : True := trivial
theorem law_holds.tw7356724547972884604 : True := trivial
theorem law_holds.tw15609566024721092083 : True := trivial
theorem law_holds.tw18203989763732354715 : True := trivial
theorem law_holds.tw10817052189556005596 : True := trivial
theorem law_holds.tw13220211186989608806 : True := trivial
theorem law_holds.tw16406091861079842607 : True := trivial
theorem law_holds.tw10666784280354678857 : True := trivial
theorem law_holds.tw18090433342136740992 : True := trivial
theorem law_holds.tw4273555757443719353 : True := trivial
theorem law_holds.tw6499956759230125245 : True := trivial
theorem law_holds.tw16563099163409725306 : True := trivial
theorem law_holds.tw12732824653754844360 : True := trivial
theorem law_holds.tw16883458599210261866 : True := trivial
theorem law_holds.tw14160533322030094474 : True := trivial
theorem law_holds.tw3943428198234077543 : True := trivial
theorem law_holds.tw8176227357466254829 : True := trivial
theorem law_holds.tw455179833554555240 : True := trivial
theorem law_holds.tw9875236377963488844 : True := trivial
theorem law_holds.tw6894629897728501357 : True := trivial
theorem law_holds.tw13800757232730249582 : True := trivial
theorem law_holds.tw14925382992726071281 : True := trivial
theorem law_holds.tw2043166853727251185 : True := trivial
theorem law_holds.tw16614716721108272449 : True := trivial
theorem law_holds.tw14289194402921355359 : True := trivial
theorem law_holds.tw4781243967656130014 : True := trivial
theorem law_holds.tw15154110283740273250 : True := trivial
theorem law_holds.tw699380112222796084 : True := trivial
theorem law_holds.tw7910590604623066228 : True := trivial
theorem law_holds.tw9606376775287448836 : True := trivial
theorem law_holds.tw8472228645029834797 : True := trivial
theorem law_holds.tw16381176275627223697 : True := trivial
theorem law_holds.tw14997073306097389879 : True := trivial
theorem law_holds.tw11097350217990362986 : True := trivial
theorem law_holds.tw15452448965706171373 : True := trivial
theorem law_holds.tw2055734563569237896 : True := trivial
theorem law_holds.tw6765152471904792315 : True := trivial
theorem law_holds.tw14335913921861858828 : True := trivial
theorem law_holds.tw13478230802861573701 : True := trivial
theorem law_holds.tw16674325987445784360 : True := trivial
theorem law_holds.tw2446358144275080391 : True := trivial
theorem law_holds.tw445335354869643106 : True := trivial
theorem law_holds.tw3437919841840417490 : True := trivial
theorem law_holds.tw12459966957829302596 : True := trivial
theorem law_holds.tw8957123355933967898 : True := trivial
theorem law_holds.tw6934448944433832347 : True := trivial
theorem law_holds.tw653560878884961445 : True := trivial
theorem law_holds.tw17027635718292003107 : True := trivial
set_option Elab.async true in
set_option maxHeartbeats 0 in
theorem law_holds : PySem.Challenge.rw_no0401_01.Holds := by
  w_on
  o_law
  o_head (kHook hd.heap_1 lawAt (fun _ => by kernel_rfl))
  (case hw => w_witness2)
  exact law_walk

end Mine
theorem PySem.Challenge.cw_no0401_01_holds : PySem.Challenge.rw_no0401_01.Holds :=
  Mine.law_holds
