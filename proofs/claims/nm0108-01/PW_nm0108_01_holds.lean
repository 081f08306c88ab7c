import PyProof.Rows.All
import Wide.All
import OpenK.AllK
import Wide.FinOn
import PySem.Challenge.RW_nm0108_01
set_option Elab.async false
set_option maxRecDepth 100000
set_option maxHeartbeats 8000000
set_option rowWalk.seconds 0
set_option compiler.extract_closed false
set_option linter.all false

section
open PySem PySem.W PyProof.Rows
namespace Mine
open_top hd for PySem.Challenge.rw_nm0108_01
theorem still : True := by first | row_walk | trivial
end Mine
end

section
open PySem PySem.W PyProof.Rows PySem.Calls PySem.Spec
namespace Mine

abbrev Led := List (Addr × Obj)
abbrev tupO (vs : List Value) (n : Nat) : Obj := { cls := .type "tuple", data := .seq vs.toArray n }

def ConV (w : World) (mean : ExcName → Option Value) (mg mb : Str → Option Value) (f : Addr) (fu : Nat) (vs : List Value) (need : Led → Prop) (out : Value → Prop) : Prop :=
  ∀ (dp un : Nat) (gd : Option (List Code)) (cn : Str) (cs : Scope) (a : Addr) (ccd : Value) (cl : List (Str × Addr)) (outer : List Env) (A₀ : Around) (base h₀ : Heap) (L : Addr) (m : Str → Option Value) (news : Led) (s : Shared)
    (Q E : Value → Shared → Prop),
    Below A₀ base outer h₀ → Fr h₀ L s.heap m → (hd.heap_39 w.params).In h₀ → News h₀ L s.heap news → Top hd.view_39 (looseW hd.view_39 []) mean mg mb h₀ → cs.kind = .function → need news →
    dp + fu < recursionLimit → un + 64 + 8 * fu < cLine →
    (∀ r h' tk', Fr h₀ L h' m → News h₀ L h' news → out r → Q r { s with heap := h', toks := tk' }) →
    wpAny (model PySem.Challenge.rw_nm0108_01.row.prog w) (ktrTop dp un gd cn cs L a ccd cl outer) (call (.ref f) vs) Q E s

def Con (w : World) (mean : ExcName → Option Value) (mg mb : Str → Option Value) (f : Addr) (fu : Nat) (vs : List Value) (need : Led → Prop) (out : Led → Value → Prop) : Prop :=
  ∀ (dp un : Nat) (gd : Option (List Code)) (cn : Str) (cs : Scope) (a : Addr) (ccd : Value) (cl : List (Str × Addr)) (outer : List Env) (A₀ : Around) (base h₀ : Heap) (L : Addr) (m : Str → Option Value) (news : Led) (s : Shared)
    (Q E : Value → Shared → Prop),
    Below A₀ base outer h₀ → Fr h₀ L s.heap m → (hd.heap_39 w.params).In h₀ → News h₀ L s.heap news → Top hd.view_39 (looseW hd.view_39 []) mean mg mb h₀ → cs.kind = .function → need news →
    dp + fu < recursionLimit → un + 64 + 8 * fu < cLine →
    (∀ r tl h' tk', Fr h₀ L h' m → News h₀ L h' (news ++ tl) → (∀ q ∈ news, ∀ p ∈ tl, q.1 < p.1) → out (news ++ tl) r → Q r { s with heap := h', toks := tk' }) →
    wpAny (model PySem.Challenge.rw_nm0108_01.row.prog w) (ktrTop dp un gd cn cs L a ccd cl outer) (call (.ref f) vs) Q E s

section
variable {w : World} {mean : ExcName → Option Value} {mg mb : Str → Option Value} {f : Addr} {fu : Nat} {vs : List Value} {need : Led → Prop}
theorem conV_use {out : Value → Prop} {dp un : Nat} {gd : Option (List Code)} {cn : Str} {cs : Scope} {a : Addr} {ccd : Value} {cl : List (Str × Addr)} {outer : List Env} {A₀ : Around} {base h₀ : Heap} {L : Addr} {m : Str → Option Value} {news : Led} {s : Shared}
    {Q E : Value → Shared → Prop} (B : Below A₀ base outer h₀) (F : Fr h₀ L s.heap m) (X : (hd.heap_39 w.params).In h₀) (N : News h₀ L s.heap news) (T : Top hd.view_39 (looseW hd.view_39 []) mean mg mb h₀) (hk : cs.kind = .function)
    (C : ConV w mean mg mb f fu vs need out) (hn : need news) (hd : dp + fu < recursionLimit) (hu : un + 64 + 8 * fu < cLine)
    (h : ∀ r h' tk', Fr h₀ L h' m → News h₀ L h' news → out r → Q r { s with heap := h', toks := tk' }) :
    wpAny (model PySem.Challenge.rw_nm0108_01.row.prog w) (ktrTop dp un gd cn cs L a ccd cl outer) (call (.ref f) vs) Q E s :=
  C _ _ _ _ _ _ _ _ _ _ _ _ _ _ _ _ _ _ B F X N T hk hn hd hu h
theorem con_use {out : Led → Value → Prop} {dp un : Nat} {gd : Option (List Code)} {cn : Str} {cs : Scope} {a : Addr} {ccd : Value} {cl : List (Str × Addr)} {outer : List Env} {A₀ : Around} {base h₀ : Heap} {L : Addr} {m : Str → Option Value} {news : Led} {s : Shared}
    {Q E : Value → Shared → Prop} (B : Below A₀ base outer h₀) (F : Fr h₀ L s.heap m) (X : (hd.heap_39 w.params).In h₀) (N : News h₀ L s.heap news) (T : Top hd.view_39 (looseW hd.view_39 []) mean mg mb h₀) (hk : cs.kind = .function)
    (C : Con w mean mg mb f fu vs need out) (hn : need news) (hd : dp + fu < recursionLimit) (hu : un + 64 + 8 * fu < cLine)
    (h : ∀ r tl h' tk', Fr h₀ L h' m → News h₀ L h' (news ++ tl) → (∀ q ∈ news, ∀ p ∈ tl, q.1 < p.1) → out (news ++ tl) r → Q r { s with heap := h', toks := tk' }) :
    wpAny (model PySem.Challenge.rw_nm0108_01.row.prog w) (ktrTop dp un gd cn cs L a ccd cl outer) (call (.ref f) vs) Q E s :=
  C _ _ _ _ _ _ _ _ _ _ _ _ _ _ _ _ _ _ B F X N T hk hn hd hu h
end

inductive Bv where
  | n (i : Int)
  | t (x y z : Int)
structure Row where
  op : Int
  a : Int
  b : Bv
  c : Int
def Bv.dat : Bv → Dat
  | .n i => .int i
  | .t x y z => .tuple [.int x, .int y, .int z]
def Row.dat (r : Row) : Dat := .tuple [.int r.op, .int r.a, r.b.dat, .int r.c]

section
variable {news : Led} {v : Value} {vs : List Value}
theorem int_inv {i : Int} (h : DatIn news v (.int i)) : ∃ t, v = .int i t := by cases h; exact ⟨_, rfl⟩
theorem tup_inv {ds : List Dat} (h : DatIn news v (.tuple ds)) : ∃ a us n, v = .ref a ∧ (a, tupO us n) ∈ news ∧ DatAll news us ds := by
  cases h with
  | tuple h r => exact ⟨_, _, _, rfl, h, r⟩
theorem list_inv {ds : List Dat} (h : DatIn news v (.list ds)) : ∃ a us n, v = .ref a ∧ (a, listOf us.toArray n) ∈ news ∧ DatAll news us ds := by
  cases h with
  | list h r => exact ⟨_, _, _, rfl, h, r⟩
theorem all_nil_inv (h : DatAll news vs []) : vs = [] := by cases h; rfl
theorem all_cons_inv {d : Dat} {ds : List Dat} (h : DatAll news vs (d :: ds)) : ∃ v us, vs = v :: us ∧ DatIn news v d ∧ DatAll news us ds := by
  cases h with
  | cons h r => exact ⟨_, _, rfl, h, r⟩
theorem t3_inv {x y z : Int} (h : DatIn news v (.tuple [.int x, .int y, .int z])) : ∃ a n t1 t2 t3, v = .ref a ∧ (a, tupO [.int x t1, .int y t2, .int z t3] n) ∈ news := by
  obtain ⟨a, us, n, rfl, hm, h⟩ := tup_inv h
  obtain ⟨v1, us, rfl, h1, h⟩ := all_cons_inv h
  obtain ⟨v2, us, rfl, h2, h⟩ := all_cons_inv h
  obtain ⟨v3, us, rfl, h3, h⟩ := all_cons_inv h
  obtain rfl := all_nil_inv h
  obtain ⟨t1, rfl⟩ := int_inv h1
  obtain ⟨t2, rfl⟩ := int_inv h2
  obtain ⟨t3, rfl⟩ := int_inv h3
  exact ⟨a, n, t1, t2, t3, rfl, hm⟩
theorem row_inv {r : Row} (h : DatIn news v r.dat) : ∃ a n t1 t2 vb t3, v = .ref a ∧ (a, tupO [.int r.op t1, .int r.a t2, vb, .int r.c t3] n) ∈ news ∧ DatIn news vb r.b.dat := by
  obtain ⟨a, us, n, rfl, hm, h⟩ := tup_inv h
  obtain ⟨v1, us, rfl, h1, h⟩ := all_cons_inv h
  obtain ⟨v2, us, rfl, h2, h⟩ := all_cons_inv h
  obtain ⟨v3, us, rfl, h3, h⟩ := all_cons_inv h
  obtain ⟨v4, us, rfl, h4, h⟩ := all_cons_inv h
  obtain rfl := all_nil_inv h
  obtain ⟨t1, rfl⟩ := int_inv h1
  obtain ⟨t2, rfl⟩ := int_inv h2
  obtain ⟨t3, rfl⟩ := int_inv h4
  exact ⟨a, n, t1, t2, v3, t3, rfl, hm, h3⟩
theorem bn_inv {i : Int} (h : DatIn news v (Bv.n i).dat) : ∃ t, v = .int i t := int_inv h
theorem bt_inv {x y z : Int} (h : DatIn news v (Bv.t x y z).dat) : ∃ a n t1 t2 t3, v = .ref a ∧ (a, tupO [.int x t1, .int y t2, .int z t3] n) ∈ news := t3_inv h
end
def RowsAt (news : Led) (l : Addr) (rs : List Row) : Prop := ∃ vs n, (l, listOf vs.toArray n) ∈ news ∧ DatAll news vs (rs.map Row.dat)
def IntsAt (news : Led) (l : Addr) (ns : List Int) : Prop := ∃ vs n, (l, listOf vs.toArray n) ∈ news ∧ IntsAre vs ns
end Mine
end

section
open PySem PySem.W PyProof.Rows PySem.Calls PySem.Spec
namespace Mine
def isJumpF (op : Int) : Bool := (op == 259 || op == 260 || op == 261) || (decide (4096 ≤ op) && decide (op < 16384)) || (decide (20480 ≤ op) && decide (op < 28672))
def lawIsJumpF (op : Int) : Bool := (op == 259 || op == 260 || op == 261) || (decide (4096 ≤ op) && !(decide (16384 ≤ op) && decide (op < 20480)))

theorem any3 {op : Int} (h : (([259, 260, 261] : List Int).any fun x => x == op) = false) : op ≠ 259 ∧ op ≠ 260 ∧ op ≠ 261 := by
  simp at h; omega
theorem any3t {op : Int} (h : (([259, 260, 261] : List Int).any fun x => x == op) = true) : op = 259 ∨ op = 260 ∨ op = 261 := by
  simp at h; omega
theorem any3b {op : Int} : (([259, 260, 261] : List Int).any fun x => x == op) = true ↔ (op = 259 ∨ op = 260 ∨ op = 261) := by
  simp; omega

theorem is_jump_con {w mean mg mb} (op : Int) (t : Tok) : ConV w mean mg mb 21 1 [.int op t] (fun _ => True) (fun r => r = .bool (isJumpF op)) := by
  unfold ConV
  k_fill
  intro dp un gd cn cs a ccd cl outer A₀ base h₀ L m news s Q E B F X N T hk hn hd9 hu hret
  refine wpAny_call ?_
  k_dflt ktr_enter
  k_steps
  all_goals (refine hret _ _ _ (by k_asm) (cb_drop (by assumption) (by kqd_sub)) ?_)
  all_goals (refine congrArg Value.bool ?_; (try have g9 := any3 (by assumption)); (try have g8 := any3t (by assumption)); rw [Bool.eq_iff_iff]; simp only [isJumpF, any3b, Bool.or_eq_true, Bool.and_eq_true, decide_eq_true_eq, beq_iff_eq, Bool.not_eq_true', decide_eq_false_iff_not, Bool.and_eq_false_imp, Bool.not_eq_eq_eq_not, Bool.not_true, Bool.and_eq_false_iff]; omega)

theorem law_is_jump_con {w mean mg mb} (ra : Addr) (op : Int) (t : Tok) (v2 v3 v4 : Value) (n : Nat) : ConV w mean mg mb 61 1 [.ref ra] (fun news => (ra, tupO [.int op t, v2, v3, v4] n) ∈ news) (fun r => r = .bool (lawIsJumpF op)) := by
  unfold ConV
  k_fill
  intro dp un gd cn cs a ccd cl outer A₀ base h₀ L m news s Q E B F X N T hk hn hd9 hu hret
  refine wpAny_call ?_
  k_dflt ktr_enter
  k_steps
  all_goals (refine hret _ _ _ (by k_asm) (cb_drop (by assumption) (by kqd_sub)) ?_)
  all_goals (refine congrArg Value.bool ?_; (try have g9 := any3 (by assumption)); (try have g8 := any3t (by assumption)); rw [Bool.eq_iff_iff]; simp only [lawIsJumpF, any3b, Bool.or_eq_true, Bool.and_eq_true, decide_eq_true_eq, beq_iff_eq, Bool.not_eq_true', decide_eq_false_iff_not, Bool.and_eq_false_imp, Bool.not_eq_eq_eq_not, Bool.not_true, Bool.and_eq_false_iff]; omega)
end Mine
end

section
open PySem PySem.W PyProof.Rows PySem.Calls PySem.Spec
namespace Mine

def RowG (N : Int) (r : Row) : Prop := match r.b with
  | .n k => (r.op = 257 ∧ 0 ≤ r.a ∧ r.a < 3 ∧ 0 ≤ k) ∨ (r.op = 256 ∧ 0 ≤ r.a ∧ r.a < 3 ∧ 0 ≤ k ∧ k < 3) ∨ (r.op = 259 ∧ 0 ≤ r.a ∧ r.a < N) ∨ ((r.op = 260 ∨ r.op = 261) ∧ 0 ≤ r.a ∧ r.a < N ∧ 0 ≤ k ∧ k < 3 ∧ 0 ≤ r.c ∧ r.c < 3) ∨ (r.op = 267) ∨
    (r.op = 16490 ∧ 0 ≤ r.a ∧ r.a < 3 ∧ 0 ≤ k ∧ k < 3) ∨ ((r.op = 4166 ∨ r.op = 4169 ∨ r.op = 8262 ∨ r.op = 8265) ∧ 0 ≤ r.a ∧ r.a < N ∧ 0 ≤ k ∧ k < 3 ∧ 0 ≤ r.c ∧ r.c < 3) ∨ ((r.op = 20550 ∨ r.op = 20553 ∨ r.op = 24646 ∨ r.op = 24649) ∧ 0 ≤ r.a ∧ r.a < N ∧ 0 ≤ k ∧ k < 3)
  | .t x y z => r.op = 262 ∧ 0 ≤ r.a ∧ r.a < 3 ∧ 0 ≤ x ∧ x < N ∧ 0 ≤ y ∧ y < N ∧ 0 ≤ z ∧ z < N

theorem led_swap {h₀ h : Heap} {L : Addr} {tl news : Led} (N : News h₀ L h (tl ++ news)) : News h₀ L h (news ++ tl) := fun p hp => N p (List.mem_append.mpr (List.mem_append.mp hp).symm)
theorem ord3 {a b c : Addr} {o1 o2 o3 : Obj} {news : Led} (h1 : ∀ p ∈ news, p.1 < a) (h2 : a < b ∧ AllLt b news) (h3 : b < c ∧ a < c ∧ AllLt c news) : ∀ q ∈ news, ∀ p ∈ [(c, o1), (b, o2), (a, o3)], q.1 < p.1 := by
  intro q hq p hp
  simp only [List.mem_cons, List.not_mem_nil, or_false] at hp
  rcases hp with rfl | rfl | rfl
  · exact ktn_ltOf h3.2.2 q hq
  · exact ktn_ltOf h2.2 q hq
  · exact h1 q hq
theorem ord4 {a b c d : Addr} {o1 o2 o3 o4 : Obj} {news : Led} (h1 : ∀ p ∈ news, p.1 < a) (h2 : a < b ∧ AllLt b news) (h3 : b < c ∧ a < c ∧ AllLt c news) (h4 : c < d ∧ b < d ∧ a < d ∧ AllLt d news) : ∀ q ∈ news, ∀ p ∈ [(d, o4), (c, o1), (b, o2), (a, o3)], q.1 < p.1 := by
  intro q hq p hp
  rcases List.mem_cons.mp hp with rfl | hp
  · exact ktn_ltOf h4.2.2.2 q hq
  · exact ord3 h1 h2 h3 q hq p hp
theorem rowN_ok {nw : Led} {D : Addr} {op a k c : Int} {t1 t2 t3 t4 : Tok} {n : Nat} (h : (D, ({ cls := .type "tuple", data := .seq #[.int op t1, .int a t2, .int k t3, .int c t4] n } : Obj)) ∈ nw) (ok : RowG 4 ⟨op, a, .n k, c⟩) : ∃ row, RowG 4 row ∧ DatIn nw (.ref D) row.dat :=
  ⟨_, ok, DatIn.tuple (vs := [_, _, _, _]) h (.cons (.int _ _) (.cons (.int _ _) (.cons (.int _ _) (.cons (.int _ _) .nil))))⟩
theorem rowT_ok {nw : Led} {D D' : Addr} {op a x y z c : Int} {t1 t2 t4 t5 t6 t7 : Tok} {n n' : Nat} (h : (D, ({ cls := .type "tuple", data := .seq #[.int op t1, .int a t2, .ref D', .int c t4] n } : Obj)) ∈ nw)
    (h' : (D', ({ cls := .type "tuple", data := .seq #[.int x t5, .int y t6, .int z t7] n' } : Obj)) ∈ nw) (ok : RowG 4 ⟨op, a, .t x y z, c⟩) : ∃ row, RowG 4 row ∧ DatIn nw (.ref D) row.dat :=
  ⟨_, ok, DatIn.tuple (vs := [_, _, _, _]) h (.cons (.int _ _) (.cons (.int _ _) (.cons (.tuple (vs := [_, _, _]) h' (.cons (.int _ _) (.cons (.int _ _) (.cons (.int _ _) .nil)))) (.cons (.int _ _) .nil))))⟩
theorem fm {x : Int} {k : Int} (h : 0 < k) : 0 ≤ x.fmod k ∧ x.fmod k < k := ⟨Int.fmod_nonneg_of_pos x h, Int.fmod_lt_of_pos x h⟩

def ConT (w : World) (mean : ExcName → Option Value) (mg mb : Str → Option Value) (f : Addr) (fu : Nat) (vs : List Value) (need : Led → Prop) (out : Led → Value → Prop) : Prop :=
  ∀ (dp un : Nat) (gd : Option (List Code)) (cn : Str) (cs : Scope) (a : Addr) (ccd : Value) (cl : List (Str × Addr)) (outer : List Env) (A₀ : Around) (base h₀ : Heap) (L : Addr) (m : Str → Option Value) (news : Led) (s : Shared)
    (Q E : Value → Shared → Prop),
    Below A₀ base outer h₀ → Fr h₀ L s.heap m → (hd.heap_39 w.params).In h₀ → News h₀ L s.heap news → Top hd.view_39 (looseW hd.view_39 []) mean mg mb h₀ → cs.kind = .function → need news →
    dp + fu < recursionLimit → un + 64 + 8 * fu < cLine →
    (∀ r tl h' tk', Fr h₀ L h' m → News h₀ L h' (news ++ tl) → (∀ q ∈ news, ∀ p ∈ tl, q.1 < p.1) → out tl r → Q r { s with heap := h', toks := tk' }) →
    wpAny (model PySem.Challenge.rw_nm0108_01.row.prog w) (ktrTop dp un gd cn cs L a ccd cl outer) (call (.ref f) vs) Q E s
theorem conT_use {w : World} {mean : ExcName → Option Value} {mg mb : Str → Option Value} {f : Addr} {fu : Nat} {vs : List Value} {need : Led → Prop} {out : Led → Value → Prop} {dp un : Nat} {gd : Option (List Code)} {cn : Str} {cs : Scope} {a : Addr} {ccd : Value} {cl : List (Str × Addr)} {outer : List Env} {A₀ : Around} {base h₀ : Heap} {L : Addr} {m : Str → Option Value} {news : Led} {s : Shared}
    {Q E : Value → Shared → Prop} (B : Below A₀ base outer h₀) (F : Fr h₀ L s.heap m) (X : (hd.heap_39 w.params).In h₀) (N : News h₀ L s.heap news) (T : Top hd.view_39 (looseW hd.view_39 []) mean mg mb h₀) (hk : cs.kind = .function)
    (C : ConT w mean mg mb f fu vs need out) (hn : need news) (hd : dp + fu < recursionLimit) (hu : un + 64 + 8 * fu < cLine)
    (h : ∀ r tl h' tk', Fr h₀ L h' m → News h₀ L h' (news ++ tl) → (∀ q ∈ news, ∀ p ∈ tl, q.1 < p.1) → out tl r → Q r { s with heap := h', toks := tk' }) :
    wpAny (model PySem.Challenge.rw_nm0108_01.row.prog w) (ktrTop dp un gd cn cs L a ccd cl outer) (call (.ref f) vs) Q E s :=
  C _ _ _ _ _ _ _ _ _ _ _ _ _ _ _ _ _ _ B F X N T hk hn hd hu h

theorem law_row_con {w mean mg mb} (x : Int) (t : Tok) : ConT w mean mg mb 47 1 [.int x t] (fun _ => True) (fun nw r => ∃ row, RowG 4 row ∧ DatIn nw r row.dat) := by
  unfold ConT
  k_fill
  intro dp un gd cn cs a ccd cl outer A₀ base h₀ L m news s Q E B F X N T hk hn hd9 hu hret
  refine wpAny_call ?_
  k_dflt ktr_enter
  k_steps
  all_goals (have q0 := fm (x := x) (k := 10) (by decide); have q1 := fm (x := (if x.fdiv 10 < 0 then -x.fdiv 10 else x.fdiv 10)) (k := 3) (by decide); have q2 := fm (x := ((if x.fdiv 10 < 0 then -x.fdiv 10 else x.fdiv 10).fdiv 3)) (k := 3) (by decide); have q3 := fm (x := ((if x.fdiv 10 < 0 then -x.fdiv 10 else x.fdiv 10).fdiv 9)) (k := 4) (by decide); have q4 := fm (x := (((if x.fdiv 10 < 0 then -x.fdiv 10 else x.fdiv 10).fdiv 9).fdiv 4)) (k := 4) (by decide))
  all_goals (refine hret _ _ _ _ (by k_asm) (by first | exact led_swap (tl := [_, _, _]) (by assumption) | exact led_swap (tl := [_, _, _, _]) (by assumption)) ?_ ?_)
  all_goals first
    | (exact ord3 (by assumption) (by assumption) (by assumption)) | (exact ord4 (by assumption) (by assumption) (by assumption) (by assumption))
    | (refine rowN_ok (List.Mem.head _) ?_; (simp only [RowG]); first | omega | (simp; omega))
    | (refine rowT_ok (List.Mem.head _) (List.Mem.tail _ (List.Mem.head _)) ?_; (have q5 := fm (x := (((if x.fdiv 10 < 0 then -x.fdiv 10 else x.fdiv 10).fdiv 9).fmod 4 + 1)) (k := 4) (by decide)); (have q6 := fm (x := (((if x.fdiv 10 < 0 then -x.fdiv 10 else x.fdiv 10).fdiv 9).fmod 4 + ((if x.fdiv 10 < 0 then -x.fdiv 10 else x.fdiv 10).fdiv 3).fmod 3)) (k := 4) (by decide)); exact ⟨rfl, q1.1, q1.2, q3.1, q3.2, q5.1, q5.2, q6.1, q6.2⟩)


end Mine
end

section
open PySem PySem.W PyProof.Rows PySem.Calls PySem.Spec
namespace Mine

theorem fam4 {a b c : Int} {S : Bool} (h : a ≠ b) : (S == (a == c)) = (S == (a == b || a == c)) := by rw [beq_eq_false_iff_ne.mpr h, Bool.false_or]
def doneF (op k c : Int) (ns : List Int) : Bool :=
  if op = 260 ∨ op = 261 then ((ns.getD k.toNat 0 != 0) == (op == 260))
  else (if op - op.fdiv 4096 * 4096 = 70 then ns.getD k.toNat 0 == (if op.fdiv 4096 * 4096 < 16384 then ns.getD c.toNat 0 else c) else decide (ns.getD k.toNat 0 < (if op.fdiv 4096 * 4096 < 16384 then ns.getD c.toNat 0 else c))) == (op.fdiv 4096 * 4096 == 4096 || op.fdiv 4096 * 4096 == 20480)

theorem law_is_done_con {w mean mg mb} (ra sa : Addr) (op c l : Int) (t t2 t3 t4 : Tok) (k : Int) (n : Nat) (vs : List Value) (nn : Nat) (ns : List Int) (hv : IntsAre vs ns) (hns : ns.length = 3) (h1 : 0 ≤ k ∧ k < 3) (h2 : ¬ op.fdiv 4096 * 4096 < 16384 ∨ (0 ≤ c ∧ c < 3)) : ConV w mean mg mb 54 1 [.ref ra, .ref sa] (fun news => (ra, tupO [.int op t, .int l t2, .int k t3, .int c t4] n) ∈ news ∧ (sa, listOf vs.toArray nn) ∈ news) (fun r => r = .bool (doneF op k c ns)) := by
  unfold ConV
  k_fill
  intro dp un gd cn cs a ccd cl outer A₀ base h₀ L m news s Q E B F X N T hk hn hd9 hu hret
  obtain ⟨hn1, hn2⟩ := hn
  have kMark := kdMark
  refine wpAny_call ?_
  k_dflt ktr_enter
  k_steps
  all_goals (refine hret _ _ _ (by k_asm) (cb_drop (by assumption) (by kqd_sub)) (congrArg Value.bool ?_))
  all_goals (simp only [doneF]; (repeat' split) <;> first | exact fam4 (by assumption) | (simp_all; done) | trace_state)
end Mine
end

section
open PySem PySem.W PyProof.Rows PySem.Calls PySem.Spec
namespace Mine

structure WF (N : Int) (rs : List Row) (ls : List Int) : Prop where
  pos : 0 < rs.length
  le : rs.length ≤ 12
  rows : ∀ r ∈ rs, RowG N r
  labs : (ls.length : Int) = N
  lab : ∀ k : Int, 0 ≤ k → k < N → 0 ≤ ls.getD k.toNat 0 ∧ ls.getD k.toNat 0 < rs.length
  len : N ≤ 12
  last : ∀ k : Int, 0 ≤ k → k < rs.length → (rs.getD k.toNat ⟨0, 0, .n 0, 0⟩).op ≠ 267 → k + 1 < rs.length

abbrev rowA (rs : List Row) (k : Int) : Row := rs.getD k.toNat ⟨0, 0, .n 0, 0⟩

structure RowFacts (N : Int) (r : Row) : Prop where
  a4 : (r.op = 259 ∨ r.op = 260 ∨ r.op = 261 ∨ (4096 ≤ r.op ∧ (r.op < 16384 ∨ 20480 ≤ r.op))) → 0 ≤ r.a ∧ r.a < N
  a3 : (r.op = 256 ∨ r.op = 257 ∨ r.op = 16490 ∨ r.op = 262) → 0 ≤ r.a ∧ r.a < 3
theorem rowFacts {N : Int} {r : Row} (h : RowG N r) : RowFacts N r := by
  obtain ⟨op, a, b, c⟩ := r
  cases b with
  | t x y z =>
    have e : op = 262 := h.1
    exact ⟨fun q => absurd q (by dsimp only; rw [e]; decide), fun _ => ⟨h.2.1, h.2.2.1⟩⟩
  | n k =>
    rcases h with h | h | h | h | h | h | h | h
    · have e : op = 257 := h.1
      exact ⟨fun q => absurd q (by dsimp only; rw [e]; decide), fun _ => ⟨h.2.1, h.2.2.1⟩⟩
    · have e : op = 256 := h.1
      exact ⟨fun q => absurd q (by dsimp only; rw [e]; decide), fun _ => ⟨h.2.1, h.2.2.1⟩⟩
    · have e : op = 259 := h.1
      exact ⟨fun _ => ⟨h.2.1, h.2.2⟩, fun q => absurd q (by dsimp only; rw [e]; decide)⟩
    · exact ⟨fun _ => ⟨h.2.1, h.2.2.1⟩, fun q => by rcases h.1 with e | e <;> (have e' : op = _ := e; dsimp only at q; rw [e'] at q; exact absurd q (by decide))⟩
    · have e : op = 267 := h
      exact ⟨fun q => absurd q (by dsimp only; rw [e]; decide), fun q => absurd q (by dsimp only; rw [e]; decide)⟩
    · have e : op = 16490 := h.1
      exact ⟨fun q => absurd q (by dsimp only; rw [e]; decide), fun _ => ⟨h.2.1, h.2.2.1⟩⟩
    · exact ⟨fun _ => ⟨h.2.1, h.2.2.1⟩, fun q => by rcases h.1 with e | e | e | e <;> (have e' : op = _ := e; dsimp only at q; rw [e'] at q; exact absurd q (by decide))⟩
    · exact ⟨fun _ => ⟨h.2.1, h.2.2.1⟩, fun q => by rcases h.1 with e | e | e | e <;> (have e' : op = _ := e; dsimp only at q; rw [e'] at q; exact absurd q (by decide))⟩

theorem WF.row {N : Int} {rs : List Row} {ls : List Int} (W : WF N rs ls) {k : Int} (h0 : 0 ≤ k) (h1 : k < rs.length) : rowA rs k ∈ rs ∧ rs[k.toNat]? = some (rowA rs k) := by
  have hk : k.toNat < rs.length := by omega
  have e : rowA rs k = rs[k.toNat] := by simp [rowA, hk]
  exact ⟨e ▸ List.getElem_mem hk, by rw [e]; exact List.getElem?_eq_getElem hk⟩

section
variable {prog : Program} {w : World} {A : Around} {E : Value → Shared → Prop} {s : Shared} {h₀ : Heap} {L l : Addr}
theorem row_at {N : Int} {value slice : PySem.Expr} {rs : List Row} {ls : List Int} {nws n₁ : Led} {us : List Value} {n : Nat} {k : Int} {u : Tok} {Q : Value → Shared → Prop} (W : WF N rs ls) (Nw : News h₀ L s.heap nws) (hm : (l, listOf us.toArray n) ∈ nws) (hd : DatAll n₁ us (rs.map Row.dat))
    (h0 : 0 ≤ k) (h1 : k < (rs.length : Int))
    (h : ∀ a nn t1 t2 t3 vb, (a, tupO [.int (rowA rs k).op t1, .int (rowA rs k).a t2, vb, .int (rowA rs k).c t3] nn) ∈ n₁ → DatIn n₁ vb (rowA rs k).b.dat → RowFacts N (rowA rs k) → Q (.ref a) s)
    (hs : subscripted slice false (.ref l) (.int k u) = operate [.ref l, .int k u] (getItem (.ref l) (.int k u)) := by with_unfolding_all rfl) :
    wpAny (model prog w) A (subscriptTail value slice (.ref l) (.int k u)) Q E s := by
  have hle := W.le
  refine kd_item Nw hm hd h0 (by rw [List.length_map]; exact h1) (by omega) (fun v d hk _ hD => ?_) hs
  obtain ⟨hmem, hg⟩ := W.row h0 h1
  rw [List.getElem?_map, hg] at hk
  obtain rfl := Option.some.inj hk
  obtain ⟨a, nn, t1, t2, vb, t3, rfl, hm1, hb⟩ := row_inv hD
  exact h a nn t1 t2 t3 vb hm1 hb (rowFacts (W.rows _ hmem))
theorem lab_at {N : Int} {value slice : PySem.Expr} {rs : List Row} {ls : List Int} {nws : Led} {us : List Value} {n : Nat} {k : Int} {u : Tok} {Q : Value → Shared → Prop} (W : WF N rs ls) (Nw : News h₀ L s.heap nws) (hm : (l, listOf us.toArray n) ∈ nws) (hd : IntsAre us ls)
    (h0 : 0 ≤ k) (h1 : k < N)
    (h : ∀ t, 0 ≤ ls.getD k.toNat 0 → ls.getD k.toNat 0 < rs.length → Q (.int (ls.getD k.toNat 0) t) s)
    (hs : subscripted slice false (.ref l) (.int k u) = operate [.ref l, .int k u] (getItem (.ref l) (.int k u)) := by with_unfolding_all rfl) :
    wpAny (model prog w) A (subscriptTail value slice (.ref l) (.int k u)) Q E s := by
  have hlen := W.len
  have hl : s.heap.IsList l us.toArray := ⟨_, (Nw _ hm).1, rfl, n, rfl⟩
  exact item_anyK hl hd h0 (by rw [W.labs]; exact h1) (by omega) (fun t => h t (W.lab k h0 h1).1 (W.lab k h0 h1).2) hs
theorem rows_len {N : Int} {rs : List Row} {ls : List Int} {nws n₁ : Led} {us : List Value} {n : Nat} {Q : Value → Shared → Prop} (W : WF N rs ls) (Nw : News h₀ L s.heap nws) (hm : (l, listOf us.toArray n) ∈ nws) (hd : DatAll n₁ us (rs.map Row.dat))
    (h : Q (.int (rs.length : Int) (s.toks + 1)) { s with toks := s.toks + 1 + 1 }) : wpAny (model prog w) A (call (.builtin "len") [.ref l]) Q E s := by
  have hle := W.le
  refine kd_len Nw hm hd (by rw [List.length_map]; omega) ?_
  rw [List.length_map]; exact h
end

theorem fr_sets {h₀ h : Heap} {L : Addr} {m : Str → Option Value} (ps : List (Str × Value)) (F : Fr h₀ L h m) (e : ∀ p ∈ ps, m p.1 = some p.2) : Fr h₀ L h (kstB m ps) := by
  have : kstB m ps = m := funext fun z => kstB_eq e fun _ => rfl
  rw [this]; exact F

def Hold (P : Prop) : Prop := P
theorem Hold.mk {P : Prop} (h : P) : Hold P := h
theorem Hold.out {P : Prop} (h : Hold P) : P := h

section
variable {prog : Program} {w : World} {A : Around} {E : Value → Shared → Prop} {s : Shared} {env : Env} {h₀ : Heap} {x : Str} {body : List Stmt} {Q : Flow → Shared → Prop}
theorem range_ind {I : Addr} {a : Int} {n : Nat} (Inv : Nat → (Str → Option Value) → Led → Prop)
    (done : ∀ m news h tk, Inv 0 m news → Fr h₀ env.locals h m → News h₀ env.locals h news → Q .next { s with heap := h, toks := tk })
    (step : ∀ (k i : Nat) m news t h tk, Inv (k + 1) m news → Fr h₀ env.locals h (fun y => if y = x then some (.int (a + (i : Int)) t) else m y) → News h₀ env.locals h ((I, itR (a + ((i + 1 : Nat) : Int)) ((n : Int) - ((i + 1 : Nat) : Int))) :: news) →
      wpAny (model prog w) A (execs body env) (UnrPost h₀ env.locals { s with heap := h, toks := tk } I (itR (a + ((i + 1 : Nat) : Int)) ((n : Int) - ((i + 1 : Nat) : Int))) (fun m' n' => Inv k m' n') Q) E { s with heap := h, toks := tk }) :
    ∀ k i m news, Inv k m news → RangeRest prog w A E h₀ env x body Q s I a n k i m news
  | 0, _, m, news, hi => RangeRest.zero fun h tk F N => done m news h tk hi F N
  | k + 1, i, m, news, hi => RangeRest.succ fun t h tk F N => by
    refine wpAny_mono (step k i m news t h tk hi F N) (fun f s₂ p => ?_) fun _ _ e => e
    have up : UnrEnd h₀ env.locals { s with heap := h, toks := tk } I (itR (a + ((i + 1 : Nat) : Int)) ((n : Int) - ((i + 1 : Nat) : Int))) (fun m' n' => Inv k m' n') s₂ →
        UnrEnd h₀ env.locals { s with heap := h, toks := tk } I (itR (a + ((i + 1 : Nat) : Int)) ((n : Int) - ((i + 1 : Nat) : Int))) (RangeRest prog w A E h₀ env x body Q s I a n k (i + 1)) s₂ := by
      rintro ⟨h', tk', m', news', e, F', N', o, r⟩
      exact ⟨h', tk', m', news', e, F', N', o, range_ind Inv done step k (i + 1) m' news' r⟩
    cases f with
    | ret v => exact p
    | brk => exact p
    | next => exact up p
    | cont => exact up p
theorem unr_end {L I : Addr} {it : Obj} {rest : (Str → Option Value) → List (Addr × Obj) → Prop} {s₁ : Shared} {h' : Heap} {tk : Nat} {m' : Str → Option Value} {all : List (Addr × Obj)} (F : Fr h₀ L h' m') (N : News h₀ L h' all) (news' : List (Addr × Obj))
    (sub : ∀ p ∈ (I, it) :: news', p ∈ all) (off : ∀ p ∈ news', p.1 < I) (r : rest m' news') : UnrEnd h₀ L s₁ I it rest { s₁ with heap := h', toks := tk } :=
  ⟨h', tk, m', news', rfl, F, fun p hp => N p (sub p hp), fun p hp => Nat.ne_of_lt (off p hp), r⟩
end

def stepF (rs : List Row) (ls : List Int) (at_ : Int) : Int := if (rowA rs at_).op = 259 then ls.getD (rowA rs at_).a.toNat 0 else at_
noncomputable def iterF (rs : List Row) (ls : List Int) : Nat → Int → Int
  | 0, x => x
  | k + 1, x => iterF rs ls k (stepF rs ls x)
noncomputable def threadF (rs : List Row) (ls : List Int) (lb : Int) : Int := iterF rs ls 8 (ls.getD lb.toNat 0)

local macro_rules | `(tactic| walk_at $s:str) => if ["RangeRest", "UnrEnd"].contains (Lean.TSyntax.getString s) then `(tactic| refine Hold.out ?_) else Lean.Macro.throwUnsupported
local macro_rules | `(tactic| walk_at "call builtin:len") => `(tactic| (k_here; k_dflt (refine' rows_len (by assumption) (by k_asm) (by k_mem) (by assumption) ?_)))
local macro_rules | `(tactic| walk_at "subscriptTail") => `(tactic| (k_here; (with_unfolding_all refine' lab_at (by assumption) (by k_asm) (by k_mem) (by assumption) (by omega) (by omega) ?_ (by with_unfolding_all rfl)); intro t' hlo' hhi'))
local macro_rules | `(tactic| walk_at "subscriptTail") => `(tactic| (k_here; (with_unfolding_all refine' row_at (by assumption) (by k_asm) (by k_mem) (by assumption) (by omega) (by omega) ?_ (by with_unfolding_all rfl)); intro a' n' t1' t2' t3' vb' hm' hb' hf'; have hf1' := hf'.a4; have hf2' := hf'.a3))

theorem threaded_con {w mean mg mb} (NB : Int) (rl ll : Addr) (rs : List Row) (ls : List Int) (lb : Int) (t : Tok) (W : WF NB rs ls) (hl0 : 0 ≤ lb) (hl1 : lb < NB) :
    ConV w mean mg mb 28 1 [.ref rl, .ref ll, .int lb t] (fun news => RowsAt news rl rs ∧ IntsAt news ll ls) (fun r => ∃ t, r = .int (threadF rs ls lb) t) := by
  unfold ConV
  k_fill
  rintro dp un gd cn cs a ccd cl outer A₀ base h₀ L m news s Q E B F X N T hk ⟨⟨us, n, hR, hD⟩, ⟨us', n', hL, hI⟩⟩ hd9 hu hret
  have kMark := kdMark
  refine wpAny_call ?_
  k_dflt ktr_enter
  k_steps
  refine Hold.mk (range_ind (fun k m nx => (∀ p ∈ news, p ∈ nx) ∧ (∃ x t, m (Str.ofString "at") = some (.int x t) ∧ 0 ≤ x ∧ x < rs.length ∧ iterF rs ls k x = threadF rs ls lb) ∧ m (Str.ofString "rows") = some (.ref rl) ∧ m (Str.ofString "labels") = some (.ref ll)) ?done ?step _ _ _ _ ?init)
  case init =>
    refine ⟨by kqd_sub, ⟨_, _, by with_unfolding_all rfl, by assumption, by assumption, rfl⟩, by with_unfolding_all rfl, by with_unfolding_all rfl⟩
  case done =>
    rintro m₁ nx h₁ tk₁ ⟨hs, ⟨x, t₁, e1, x0, x1, ex⟩, e2, e3⟩ F₁ N₁
    have F₂ := fr_sets [(Str.ofString "at", .int x t₁), (Str.ofString "rows", .ref rl), (Str.ofString "labels", .ref ll)] F₁ (by simp [e1, e2, e3])
    have N₂ := cb_drop N₁ hs
    clear F₁ N₁
    k_steps
    all_goals (refine hret _ _ _ (by k_asm) (cb_drop (by assumption) (by kqd_sub)) ⟨_, by rw [← ex]; rfl⟩)
  case step =>
    rintro k i m₁ nx t₁ h₁ tk₁ ⟨hs, ⟨x, t₂, e1, x0, x1, ex⟩, e2, e3⟩ F₁ N₁
    have F₂ := fr_sets [(Str.ofString "at", .int x t₂), (Str.ofString "rows", .ref rl), (Str.ofString "labels", .ref ll)] F₁ (by simp (decide := true) [e1, e2, e3])
    have N₂ := cb_drop N₁ (List.forall_mem_cons.mpr ⟨.head _, fun p hp => .tail _ (hs p hp)⟩)
    clear F₁ N₁
    k_steps
    all_goals refine Hold.mk (unr_end (by assumption) (by assumption) news (by kqd_sub) (by assumption) ⟨fun _ h => h, ⟨_, _, by with_unfolding_all rfl, by assumption, by assumption, ?_⟩, by with_unfolding_all rfl, by with_unfolding_all rfl⟩)
    · rw [← ex]; show _ = iterF rs ls k (stepF rs ls x); rw [stepF, if_pos (by assumption)]
    · rw [← ex]; show _ = iterF rs ls k (stepF rs ls x); rw [stepF, if_neg (by assumption)]
end Mine
end

section
open PySem PySem.W PyProof.Rows PySem.Calls PySem.Spec PyProof.Rows.LCg
namespace Mine
section
variable {prog : Program} {w : World} {A : Around} {E : Value → Shared → Prop} {s : Shared} {h₀ : Heap} {L : Addr} {m : Str → Option Value} {env : Env}
def SrcT (prog : Program) (w : World) (A : Around) (h₀ : Heap) (L : Addr) (m : Str → Option Value) (env : Env) (elt : Expr) (x : Str) (scope : Scope) (cl : List (Str × Addr)) (Fin : Shared → List Value → List (Addr × Obj) → Prop) (xv : Value) (s₁ : Shared) : Prop :=
  ∃ ax its n news, xv = .ref ax ∧ A.handled = none ∧ Fr h₀ L s₁.heap m ∧ News h₀ L s₁.heap news ∧ (ax, ({ cls := .type "tuple", data := .seq its n } : Obj)) ∈ news ∧ its.size ≤ sizeLine ∧
    ∀ s₂ : Shared, (∃ h, s₂ = { s₁ with heap := h }) → CompRest prog w A h₀ L m env elt x scope cl s₂ (fun nw => (ax, ({ cls := .type "tuple", data := .seq its n } : Obj)) ∈ nw) (fun i v => its[i]? = some v) (Fin s₂) its.size 0 [] news
theorem srcT_mk {elt : Expr} {x : Str} {scope : Scope} {cl : List (Str × Addr)} {Fin : Shared → List Value → List (Addr × Obj) → Prop} {ax : Addr} {its : Array Value} {k : Nat} {news : List (Addr × Obj)} {s₁ : Shared}
    (hh : A.handled = none) (F : Fr h₀ L s₁.heap m) (N : News h₀ L s₁.heap news) (hm : (ax, ({ cls := .type "tuple", data := .seq its k } : Obj)) ∈ news) (hsz : its.size ≤ sizeLine)
    (h : ∀ g, CompRest prog w A h₀ L m env elt x scope cl { s₁ with heap := g } (fun nw => (ax, ({ cls := .type "tuple", data := .seq its k } : Obj)) ∈ nw) (fun i v => its[i]? = some v) (Fin { s₁ with heap := g }) its.size 0 [] news) :
    SrcT prog w A h₀ L m env elt x scope cl Fin (.ref ax) s₁ := ⟨ax, its, k, news, rfl, hh, F, N, hm, hsz, fun _ ⟨g, e⟩ => e ▸ h g⟩
theorem tup_st {ax I : Addr} {its : Array Value} {n : Nat} : ∀ i (h h' : Heap) (o : Obj) (nw : List (Addr × Obj)), (h.IsTupleIter I ax i ∧ h.IsTuple ax its) → h.get? I = some o → h'.get? I = some o → (∀ b o, h₀.get? b = some o → h'.get? b = some o) → News h₀ L h' nw → (ax, ({ cls := .type "tuple", data := .seq its n } : Obj)) ∈ nw → (h'.IsTupleIter I ax i ∧ h'.IsTuple ax its) :=
  fun i h h' o nw st e e' k N S => ⟨by obtain ⟨o', q, r⟩ := st.1; rw [e] at q; cases q; exact ⟨o, e', r⟩, ⟨_, (N _ S).1, rfl, n, rfl⟩⟩
theorem ListComp_T {elt iter : Expr} {x : Str} {px : Pos} {scope : Scope} {cl : List (Str × Addr)} {pos : Pos} {Q : Value → Shared → Prop} (F₀ : Fr h₀ L s.heap m)
    (hclos : closureFor scope env = pure cl) (hcell : ∀ y ∈ scope.names, y.2 ≠ .cell) (hkind : scope.kind = .function)
    (hnames : ∀ y ∈ scope.names, y.2 = .local → scope.names.lookup y.1 = some .local) (hx : scope.names.lookup x = some .local)
    (h : wpAny (model prog w) A (eval iter env) (SrcT prog w A h₀ L m env elt x scope cl (fun s₂ => FinE h₀ L m s₂ Q)) E s)
    (hs : ∀ x, foldedSetIterable iter env x = pure x := by intro _; rfl) :
    wpAny (model prog w) A (eval (.ListComp elt [⟨.Name x px, iter, [], 0⟩] scope pos) env) Q E s := by
  rw [eval_ListComp]
  refine wpAny_comprehension_free (use := none) rfl hs hclos hkind hnames (wpAny_mono h (fun xv s₁ h₁ => ?_) fun _ _ e => e)
  obtain ⟨ax, its, n, news, rfl, hh, F, N, S, hsz, R⟩ := h₁
  have hl : s₁.heap.IsTuple ax its := ⟨_, (N _ S).1, rfl, n, rfl⟩
  have hlt : ax < s₁.heap.objs.size := by obtain ⟨_, e, _⟩ := hl; exact Heap.lt_size e
  refine wpAny_pyIter_tuple hl ?_
  have up : ∀ b o, s₁.heap.get? b = some o → (s₁.heap.push { cls := .type "tuple_iterator", data := .fields #[.ref ax, .int 0 0] }).get? b = some o := fun b o e => Heap.get?_push_of_some _ e
  refine block_U (Walks.tuple hh s₁.heap.objs.size ax (Nat.ne_of_lt hlt) its) hsz (fun i h st => by obtain ⟨o, e, _⟩ := st.1; exact ⟨o, e⟩) tup_st hcell hkind hx ⟨⟨_, Heap.get?_push_size _ rfl, rfl, rfl⟩, ⟨_, up _ _ (N _ S).1, rfl, n, rfl⟩⟩ (fun b hb => ?_)
    (F.keeps up) (N.grown up) (Nat.ne_of_lt F.ns.lt) (next_is_new F) (fun p hp => Nat.ne_of_lt (Heap.lt_size (N p hp).1)) S (R _ ⟨_, rfl⟩) ?_
  · show b < (s₁.heap.push _).objs.size
    rw [Heap.size_push]
    rcases List.mem_cons.mp hb with rfl | hb
    · exact Nat.lt_succ_self _
    · rw [List.mem_singleton.mp hb]; exact Nat.lt_succ_of_lt hlt
  · intro D C h tk m' ys news' F' N' o1 hn hC₀ hD₀ hCL hDL hCD offC fin
    refine ⟨m', hn, fun h'' hs'' => fin D h'' tk (F'.change hs'' hCL hC₀) (fun p hp => ?_) o1⟩
    refine ⟨hs''.extBut _ _ ?_ (N' p hp).1, (N' p hp).2⟩
    rcases List.mem_cons.mp hp with rfl | hp
    · exact Ne.symm hCD
    · exact offC p hp
end
end Mine
end

section
open PySem PySem.W PyProof.Rows PySem.Calls PySem.Spec PyProof.Rows.LCg
namespace Mine

section
variable {prog : Program} {w : World} {A : Around} {E : Value → Shared → Prop} {s : Shared} {env : Env} {h₀ : Heap} {target : Expr} {body : List Stmt} {Q : Flow → Shared → Prop}
theorem items_ind {ws : List (Addr × String)} {keep : List (Addr × Obj)} (Inv : List Value → (Str → Option Value) → Led → Prop)
    (done : ∀ m news h tk, Inv [] m news → Fr h₀ env.locals h m → News h₀ env.locals h news → Q .next { s with heap := h, toks := tk })
    (step : ∀ v r m news h tk, Inv (v :: r) m news → Fr h₀ env.locals h m → AllObj ws (fun its => News h₀ env.locals h (its ++ news) →
      wpAny (model prog w) A (assign target env v) (fun _ s₂ => wpAny (model prog w) A (execs body env) (UnrPostW h₀ env.locals { s with heap := h, toks := tk } its (fun m' n' => SubL keep n' ∧ Inv r m' n') Q) E s₂) E { s with heap := h, toks := tk })) :
    ∀ vs m news, Inv vs m news → ItemsRest prog w A E h₀ env target body Q s ws keep (vs.map .val) m news
  | [], m, news, hi => ItemsRest.zero fun h tk F N => done m news h tk hi F N
  | v :: r, m, news, hi => ItemsRest.val fun h tk F => by
    have up : ∀ its s₂, UnrEndW h₀ env.locals { s with heap := h, toks := tk } its (fun m' n' => SubL keep n' ∧ Inv r m' n') s₂ →
        UnrEndW h₀ env.locals { s with heap := h, toks := tk } its (fun m' n' => SubL keep n' ∧ ItemsRest prog w A E h₀ env target body Q s ws keep (r.map .val) m' n') s₂ := by
      rintro its s₂ ⟨h', tk', m', news', e, F', N', o, k, r'⟩
      exact ⟨h', tk', m', news', e, F', N', o, k, items_ind Inv done step r m' news' r'⟩
    have lift : ∀ (ws : List (Addr × String)) (k k' : List (Addr × Obj) → Prop), (∀ its, k its → k' its) → AllObj ws k → AllObj ws k' := by
      intro ws
      induction ws with
      | nil => exact fun k k' hk h => hk _ h
      | cons w ws ih => exact fun k k' hk h o ho => ih _ _ (fun its => hk _) (h o ho)
    refine lift _ _ _ (fun its hits N => wpAny_mono (hits N) (fun _ s₂ h₂ => wpAny_mono h₂ (fun f s₃ p => ?_) fun _ _ e => e) fun _ _ e => e) (step v r m news h tk hi F)
    cases f with
    | ret v => exact p
    | brk => exact p
    | next => exact up _ _ p
    | cont => exact up _ _ p
theorem unrw_end {L : Addr} {its : List (Addr × Obj)} {rest : (Str → Option Value) → List (Addr × Obj) → Prop} {s₁ : Shared} {h' : Heap} {tk : Nat} {m' : Str → Option Value} {all : List (Addr × Obj)} (F : Fr h₀ L h' m') (N : News h₀ L h' all) (news' : List (Addr × Obj))
    (sub : ∀ p ∈ its ++ news', p ∈ all) (off : ∀ p ∈ news', ∀ q ∈ its, p.1 ≠ q.1) (r : rest m' news') : UnrEndW h₀ L s₁ its rest { s₁ with heap := h', toks := tk } :=
  ⟨h', tk, m', news', rfl, F, fun p hp => N p (sub p hp), off, r⟩
end
section
variable {prog : Program} {w : World} {A : Around} {E : Value → Shared → Prop} {s : Shared} {h₀ : Heap} {L : Addr} {m : Str → Option Value} {env : Env}
theorem comp_ind {elt : Expr} {x : Str} {scope : Scope} {cl : List (Str × Addr)} {S : List (Addr × Obj) → Prop} {P : Nat → Value → Prop} {Fin : List Value → List (Addr × Obj) → Prop} (n : Nat) (Inv : Nat → List Value → Led → Prop)
    (done : ∀ ys news, Inv 0 ys news → Fin ys news)
    (step : ∀ k i ys news v I oI C oC D m₂ h tk (E' : Value → Shared → Prop), Inv (k + 1) ys news → k + 1 + i = n → P i v → NsObj oC m₂ → m₂ x = some v → Fr h₀ L h m → News h₀ L h ((I, oI) :: (C, oC) :: (D, lst ys) :: news) → Off3 I C D news → ((@Ne Nat I C) ∧ (@Ne Nat I D) ∧ (@Ne Nat C D)) →
      wpAny (model prog w) A (eval elt (compEnvC scope cl C env)) (CompEnd h₀ L m { s with heap := h, toks := tk } I oI C oC D (lst ys) S (fun y news' => Inv k (ys ++ [y]) news')) E' { s with heap := h, toks := tk }) :
    ∀ k i ys news, k + i = n → Inv k ys news → CompRest prog w A h₀ L m env elt x scope cl s S P Fin k i ys news
  | 0, _, ys, news, _, hi => CompRest.zero (done ys news hi)
  | k + 1, i, ys, news, e, hi => CompRest.succ fun v I oI C oC D m₂ h tk E' hP a b F N o ne => by
    refine wpAny_mono (step k i ys news v I oI C oC D m₂ h tk E' hi e hP a b F N o ne) (fun y s₂ p => ?_) fun _ _ e => e
    obtain ⟨h', tk', news', e', F', N', o', S', r⟩ := p
    exact ⟨h', tk', news', e', F', N', o', S', comp_ind n Inv done step k (i + 1) (ys ++ [y]) news' (by omega) r⟩
end

theorem ints_cons_inv {vs : List Value} {x : Int} {xs : List Int} (h : IntsAre vs (x :: xs)) : ∃ t us, vs = .int x t :: us ∧ IntsAre us xs := by
  cases h with
  | cons n t r => exact ⟨t, _, rfl, r⟩
theorem ints_nil_inv {vs : List Value} (h : IntsAre vs []) : vs = [] := by cases h; rfl

theorem jump_a {N : Int} {r : Row} (h : RowG N r) (hj : isJumpF r.op = true) : 0 ≤ r.a ∧ r.a < N ∧ ∃ k, r.b = .n k := by
  obtain ⟨op, a, b, c⟩ := r
  cases b with
  | n k =>
    have f := (rowFacts h).a4
    have : 0 ≤ a ∧ a < N := by
      apply f
      simp only [isJumpF, Bool.or_eq_true, Bool.and_eq_true, decide_eq_true_eq, beq_iff_eq] at hj
      simp only; omega
    exact ⟨this.1, this.2, k, rfl⟩
  | t x y z =>
    simp only [RowG] at h
    have : op = 262 := h.1
    subst this
    simp [isJumpF] at hj
theorem njump {N : Int} {r : Row} (h : RowG N r) (hj : isJumpF r.op = false) : (∃ k, r.b = .n k ∧ r.op ≠ 262) ∨ (∃ x y z, r.b = .t x y z ∧ r.op = 262 ∧ 0 ≤ x ∧ x < N ∧ 0 ≤ y ∧ y < N ∧ 0 ≤ z ∧ z < N) := by
  obtain ⟨op, a, b, c⟩ := r
  cases b with
  | n k =>
    refine .inl ⟨k, rfl, fun e => ?_⟩
    have e' : op = 262 := e
    subst e'
    rcases h with h | h | h | h | h | h | h | h
    · exact absurd h.1 (by dsimp only; decide)
    · exact absurd h.1 (by dsimp only; decide)
    · exact absurd h.1 (by dsimp only; decide)
    · exact absurd h.1 (by dsimp only; decide)
    · exact absurd h (by dsimp only; decide)
    · exact absurd h.1 (by dsimp only; decide)
    · exact absurd h.1 (by dsimp only; decide)
    · exact absurd h.1 (by dsimp only; decide)
  | t x y z =>
    obtain ⟨a1, _, _, a4, a5, a6, a7, a8, a9⟩ := h
    exact .inr ⟨x, y, z, rfl, a1, a4, a5, a6, a7, a8, a9⟩

noncomputable def outF (rs : List Row) (ls : List Int) (r : Row) : Row :=
  if isJumpF r.op then { r with a := threadF rs ls r.a } else
  match r.b with
  | .t x y z => { r with b := .t (threadF rs ls x) (threadF rs ls y) (threadF rs ls z) }
  | .n _ => r

theorem datAll_sub {n₁ n₂ : Led} {vs : List Value} {ds : List Dat} (h : DatAll n₁ vs ds) (hs : ∀ p ∈ n₁, p ∈ n₂) : DatAll n₂ vs ds := DatAll.mono hs h
theorem datN {nw : Led} {T : Addr} {op a k c : Int} {t1 t2 t3 t4 : Tok} {n : Nat} (h : (T, ({ cls := .type "tuple", data := .seq #[.int op t1, .int a t2, .int k t3, .int c t4] n } : Obj)) ∈ nw) : DatIn nw (.ref T) (Row.dat ⟨op, a, .n k, c⟩) :=
  DatIn.tuple (vs := [_, _, _, _]) h (.cons (.int _ _) (.cons (.int _ _) (.cons (.int _ _) (.cons (.int _ _) .nil))))
theorem datT {nw : Led} {T T' : Addr} {op a x y z c : Int} {t1 t2 t4 t5 t6 t7 : Tok} {n n' : Nat} (h : (T, ({ cls := .type "tuple", data := .seq #[.int op t1, .int a t2, .ref T', .int c t4] n } : Obj)) ∈ nw)
    (h' : (T', ({ cls := .type "tuple", data := .seq #[.int x t5, .int y t6, .int z t7] n' } : Obj)) ∈ nw) : DatIn nw (.ref T) (Row.dat ⟨op, a, .t x y z, c⟩) :=
  DatIn.tuple (vs := [_, _, _, _]) h (.cons (.int _ _) (.cons (.int _ _) (.cons (.tuple (vs := [_, _, _]) h' (.cons (.int _ _) (.cons (.int _ _) (.cons (.int _ _) .nil)))) (.cons (.int _ _) .nil))))
theorem sub_mid {p : Addr × Obj} {a b c : Led} (h : p ∈ a ++ c) : p ∈ a ++ (b ++ c) := by
  rcases List.mem_append.mp h with h | h
  · exact List.mem_append.mpr (.inl h)
  · exact List.mem_append.mpr (.inr (List.mem_append.mpr (.inr h)))
theorem dat_snoc {news tl : Led} {ws : List Value} {rs ls pre row} (x : Value) (add : Led) (hw : DatAll (news ++ tl) ws ((pre.map (outF rs ls)).map Row.dat)) (hx : DatIn (news ++ (add ++ tl)) x (outF rs ls row).dat) :
    DatAll (news ++ (add ++ tl)) (ws ++ [x]) (((pre ++ [row]).map (outF rs ls)).map Row.dat) := by
  rw [List.map_append, List.map_append]
  exact (DatAll.mono (fun _ h => sub_mid h) hw).append (.cons hx .nil)
theorem unrw_end1 {h₀ : Heap} {L : Addr} {q : Addr × Obj} {rest : (Str → Option Value) → List (Addr × Obj) → Prop} {s₁ : Shared} {h' : Heap} {tk : Nat} {m' : Str → Option Value} {all news' : List (Addr × Obj)} (F : Fr h₀ L h' m') (N : News h₀ L h' all)
    (sub : ∀ p ∈ q :: news', p ∈ all) (off : ∀ p ∈ news', p.1 ≠ q.1) (r : rest m' news') : UnrEndW h₀ L s₁ [q] rest { s₁ with heap := h', toks := tk } :=
  ⟨h', tk, m', news', rfl, F, fun p hp => N p (sub p hp), fun p hp q' hq => by rw [List.mem_singleton.mp hq]; exact off p hp, r⟩
theorem res_off {IX D L' : Addr} {o o1 o2 : Obj} {news nt : Led} (hDL : @LT.lt Nat _ (L' + 1 + 1) D) (hDI : @LT.lt Nat _ D IX) (l1 : ∀ p ∈ news, p.1 < L') (hn : ∀ p ∈ nt, @LT.lt Nat _ IX p.1) :
    ∀ p ∈ (D, o) :: (L' + 1 + 1, o1) :: (L' + 1, o2) :: (news ++ nt), p.1 ≠ IX := by
  intro p hp
  rcases List.mem_cons.mp hp with rfl | hp
  · exact neN (by dsimp only; omega)
  · rcases List.mem_cons.mp hp with rfl | hp
    · exact neN (by dsimp only; omega)
    · rcases List.mem_cons.mp hp with rfl | hp
      · exact neN (by dsimp only; omega)
      · rcases List.mem_append.mp hp with hp | hp
        · have h1 : @LT.lt Nat _ p.1 L' := l1 p hp
          exact neN (by omega)
        · have h1 := hn p hp
          exact neN (by omega)
theorem led_fin {g h : Heap} {L IX D : Addr} {oI : Obj} {c1 c2 : Addr × Obj} {ws : List Value} {x : Value} {nn : Nat} {new news tl : Led} (N : News g L h (new ++ ((IX, oI) :: (D, listOf (ws.toArray.push x) (nn + 1)) :: c1 :: c2 :: (news ++ tl)))) :
    News g L h ((IX, oI) :: (D, listOf (ws ++ [x]).toArray (nn + 1)) :: c1 :: c2 :: (news ++ (new ++ tl))) := by
  rw [List.push_toArray] at N
  intro p hp
  apply N p
  simp only [List.mem_cons, List.mem_append] at hp ⊢
  rcases hp with h | h | h | h | h | h | h <;> simp [h]

theorem led_fin2 {g h : Heap} {L IX D : Addr} {oI : Obj} {c1 c2 n1 n2 n3 : Addr × Obj} {ws : List Value} {x : Value} {nn : Nat} {news tl : Led} (N : News g L h (n1 :: n2 :: n3 :: (IX, oI) :: (D, listOf (ws.toArray.push x) (nn + 1)) :: c1 :: c2 :: (news ++ tl))) :
    News g L h ((IX, oI) :: (D, listOf (ws ++ [x]).toArray (nn + 1)) :: c1 :: c2 :: (news ++ ([n1, n2] ++ tl))) :=
  cb_drop (led_fin (new := [n1, n2, n3]) N) (by
    intro p hp
    simp only [List.mem_cons, List.mem_append, List.not_mem_nil, or_false] at hp ⊢
    rcases hp with h | h | h | h | h | (h | h) | h <;> simp [h])

local macro_rules | `(tactic| walk_at $s:str) => if ["ItemsRest", "UnrEndW", "CompRest", "CompEnd", "exec For Tuple Name cons nil", "pyIter ref", "call ref", "eval ListComp", "SrcT"].contains (Lean.TSyntax.getString s) then `(tactic| refine Hold.out ?_) else Lean.Macro.throwUnsupported
local macro_rules | `(tactic| k_all) => `(tactic| assumption)
local macro_rules | `(tactic| size_fits) => `(tactic| assumption)
local macro_rules | `(tactic| walk_at "ite") => `(tactic| (k_here; k_openite; first | refine ite_isFalse (by with_reducible assumption) ?_ | refine ite_pos (by first | with_reducible assumption | omega | (rw [beq_iff_eq]; omega) | (rw [decide_eq_true_eq]; omega)) ?_ | refine ite_neg (by first | omega | (rw [beq_iff_eq]; omega) | (rw [decide_eq_true_eq]; omega)) ?_))

theorem resolved_con {w mean mg mb} (NB : Int) (rl ll : Addr) (rs : List Row) (ls : List Int) (W : WF NB rs ls) :
    Con w mean mg mb 33 3 [.ref rl, .ref ll] (fun news => RowsAt news rl rs ∧ IntsAt news ll ls) (fun nw r => ∃ D, r = .ref D ∧ RowsAt nw D (rs.map (outF rs ls))) := by
  unfold Con
  k_fill
  rintro dp un gd cn cs a ccd cl outer A₀ base h₀ L m news s Q E B F X N T hk ⟨⟨us, n, hR, hD⟩, ⟨us', n', hL, hI⟩⟩ hd9 hu hret
  have kMark := kdMark
  refine wpAny_call ?_
  k_dflt (refine' code_defC ?k1 ?k2 ?k3 ?k4 ?k5 ?kA ?kF ?kK ?k6 ?k7 ?k8 ?k9 ?kB ?kD ?_ ?c2 ?c3 ?c4; (case kA => exact rfl); (case kF => exact rfl); (case kK => assumption); (case k1 => k_asm); (case k2 => k_asm); (case k3 => k_asm); (case k4 => k_asm); (case k5 => k_asm); (case k6 => k_is); (case k7 => k_is); (case k8 => ktr_room); (case k9 => exact BindsTo.of_eq rfl); (case kB => exact rfl); (case kD => decide +kernel); (case c2 => exact rfl); (case c3 => exact rfl); (case c4 => exact rfl); k_whole)
  intro g' L' h' tk' cells' FG' F' N' Y' B' X' T' l1
  obtain ⟨o1, o2, hE', d1, d2⟩ := CellsAre.two Y'
  subst hE'
  clear Y'
  simp only [List.cons_append, List.nil_append] at N'
  dsimp only
  (try k_fold)
  k_steps
  refine Hold.mk ?_
  k_here
  rename Fr _ _ _ _ => lF5
  with_unfolding_all refine' For_turns lF5 ?_
  k_steps
  refine Hold.mk ?_
  k_here
  rename Fr _ _ _ _ => lF6
  with_unfolding_all refine' iter_listTurns (by rfl) lF6 (by k_asm) (by k_mem) (by rfl) (by rfl) ?_
  intro IX lX
  (try k_lt lX)
  k_steps
  refine Hold.mk (items_ind (fun vs m nx => ∃ (pre post : List Row) (D : Addr) (tl : Led) (ws : List Value) (nn : Nat), rs = pre ++ post ∧ DatAll news vs (post.map Row.dat) ∧ m (Str.ofString "found") = some (.ref D) ∧
      nx = (D, listOf ws.toArray nn) :: (L' + 1 + 1, o1) :: (L' + 1, o2) :: (news ++ tl) ∧ DatAll (news ++ tl) ws ((pre.map (outF rs ls)).map Row.dat) ∧ (∀ p ∈ tl, @LT.lt Nat _ IX p.1) ∧ @LT.lt Nat _ (L' + 1 + 1) D ∧ @LT.lt Nat _ D IX) ?done ?step _ _ _ ?init)
  case init =>
    refine ⟨[], rs, _, [], [], 0, rfl, hD, by with_unfolding_all rfl, by rw [List.append_nil], .nil, (fun _ h => nomatch h), ?_, lX.1⟩
    exact (by assumption : L' + 1 + 1 < _ ∧ L' + 1 < _ ∧ AllLt _ news).1
  case done =>
    rintro m₁ nx h₁ tk₁ ⟨pre, post, D, tl, ws, nn, e0, hv, e1, rfl, hw, htl, hDL, hDI⟩ F₁ N₁
    have F₂ := fr_sets [(Str.ofString "found", .ref D)] F₁ (by simp [e1])
    clear F₁
    k_steps
    cases post with
    | cons _ _ => cases hv
    | nil =>
      rw [List.append_nil] at e0
      subst e0
      refine hret _ ((D, listOf ws.toArray nn) :: tl) _ _ (by k_asm) (cb_drop (by assumption) ?_) ?_ ⟨_, rfl, ws, nn, List.mem_append.mpr (.inr (.head _)), DatAll.mono (fun p hp => (List.mem_append.mp hp).elim (fun h => List.mem_append.mpr (.inl h)) fun h => List.mem_append.mpr (.inr (.tail _ h))) hw⟩
      · intro p hp
        simp only [List.mem_cons, List.mem_append] at hp ⊢
        rcases hp with h | h | h <;> simp [h]
      · intro q hq p hp
        have h1 : @LT.lt Nat _ q.1 L' := l1 q hq
        rcases List.mem_cons.mp hp with rfl | hp
        · exact ltN (by omega)
        · have h2 := htl p hp
          exact ltN (by omega)
  case step =>
    rintro v r m₁ nx h₁ tk₁ ⟨pre, post, D, tl, ws, nn, e0, hv, e1, rfl, hw, htl, hDL, hDI⟩ F₁ oI hoI N₁
    simp only [List.cons_append, List.nil_append] at N₁
    dsimp only at hoI
    have F₂ := fr_sets [(Str.ofString "found", .ref D)] F₁ (by simp [e1])
    clear F₁
    have hws : ws.toArray.size ≤ sizeLine := by
      have h1 := hw.length
      have h2 := W.le
      rw [e0] at h2
      simp only [List.length_append, List.length_map] at h1 h2
      rw [List.size_toArray, PySem.sizeLine_eq]; omega
    have hoff : ∀ p ∈ (L' + 1 + 1, o1) :: (L' + 1, o2) :: (news ++ tl), p.1 ≠ D := by
      intro p hp
      rcases List.mem_cons.mp hp with rfl | hp
      · exact Nat.ne_of_lt hDL
      · rcases List.mem_cons.mp hp with rfl | hp
        · exact Nat.ne_of_lt (Nat.lt_of_succ_lt hDL)
        · rcases List.mem_append.mp hp with hp | hp
          · have hlt := l1 p hp
            exact Nat.ne_of_lt (Nat.lt_trans hlt (Nat.lt_of_succ_lt (Nat.lt_of_succ_lt hDL)))
          · exact Nat.ne_of_gt (Nat.lt_trans hDI (htl p hp))
    cases post with
    | nil => cases hv
    | cons row post =>
      obtain ⟨v', us2, ev, hv1, hv2⟩ := all_cons_inv hv
      cases ev
      obtain ⟨ra, rn, t1, t2, vb, t3, rfl, hm, hb⟩ := row_inv hv1
      have hg := W.rows row (by rw [e0]; exact List.mem_append.mpr (.inr (.head _)))
      cases hj : isJumpF row.op with
      | true =>
        obtain ⟨ha0, ha1, k, hbk⟩ := jump_a hg hj
        rw [hbk] at hb
        obtain ⟨t4, rfl⟩ := bn_inv hb
        k_steps
        refine Hold.mk ?_
        k_here
        k_dflt (refine' conV_use (by k_asm) (by k_asm) (by k_asm) (by k_asm) (by k_asm) (by first | exact rfl | assumption) (is_jump_con _ _) True.intro (by ktr_room) (by ktr_units) ?_)
        rintro _ _ _ _ _ rfl
        dsimp only
        (try k_fold)
        k_steps
        refine Hold.mk ?_
        k_here
        k_dflt (refine' conV_use (by k_asm) (by k_asm) (by k_asm) (by k_asm) (by k_asm) (by first | exact rfl | assumption) (threaded_con _ _ _ _ _ _ _ (by assumption) (by omega) (by omega)) ⟨⟨_, _, by k_mem, datAll_sub (by assumption) (by kqd_sub)⟩, ⟨_, _, by k_mem, by assumption⟩⟩ (by ktr_room) (by ktr_units) ?_)
        rintro _ _ _ _ _ ⟨_, rfl⟩
        dsimp only
        (try k_fold)
        k_steps
        have e9 : outF rs ls row = ⟨row.op, threadF rs ls row.a, .n k, row.c⟩ := by simp [outF, hj, ← hbk]
        refine Hold.mk (unrw_end1 (by assumption) (led_fin (new := [_]) (by assumption)) (fun _ h => h) ?_ ⟨⟨List.mem_cons_of_mem _ (List.mem_cons_of_mem _ (List.mem_cons_of_mem _ (List.mem_append.mpr (.inl hR)))), trivial⟩, pre ++ [row], post, D, [_] ++ tl, ws ++ [_], nn + 1, by rw [e0, List.append_assoc]; rfl, hv2, by with_unfolding_all rfl, rfl, dat_snoc _ [_] hw (by rw [e9]; exact datN (List.mem_append.mpr (.inr (.head _)))), ?_, hDL, hDI⟩)
        · refine res_off hDL hDI l1 ?_
          intro p hp
          rcases List.mem_append.mp hp with hp | hp
          · rcases List.mem_singleton.mp hp with rfl
            refine ltN ?_
            dsimp only
            omega
          · exact htl p hp
        · intro p hp
          rcases List.mem_append.mp hp with hp | hp
          · rcases List.mem_singleton.mp hp with rfl
            refine ltN ?_
            dsimp only
            omega
          · exact htl p hp
      | false =>
        rcases njump hg hj with ⟨k, hbk, hop⟩ | ⟨x, y, z, hbk, hop, x0, x1, y0, y1, z0, z1⟩
        · rw [hbk] at hb
          obtain ⟨t4, rfl⟩ := bn_inv hb
          k_steps
          refine Hold.mk ?_
          k_here
          k_dflt (refine' conV_use (by k_asm) (by k_asm) (by k_asm) (by k_asm) (by k_asm) (by first | exact rfl | assumption) (is_jump_con _ _) True.intro (by ktr_room) (by ktr_units) ?_)
          rintro _ _ _ _ _ rfl
          dsimp only
          (try k_fold)
          k_steps
          have e9 : outF rs ls row = ⟨row.op, row.a, .n k, row.c⟩ := by
            obtain ⟨op, a, b, c⟩ := row
            simp only at hj hbk
            subst hbk
            simp [outF, hj]
          refine Hold.mk (unrw_end1 (by assumption) (led_fin (new := [_]) (by assumption)) (fun _ h => h) ?_ ⟨⟨List.mem_cons_of_mem _ (List.mem_cons_of_mem _ (List.mem_cons_of_mem _ (List.mem_append.mpr (.inl hR)))), trivial⟩, pre ++ [row], post, D, [_] ++ tl, ws ++ [_], nn + 1, by rw [e0, List.append_assoc]; rfl, hv2, by with_unfolding_all rfl, rfl, dat_snoc _ [_] hw (by rw [e9]; exact datN (List.mem_append.mpr (.inr (.head _)))), ?_, hDL, hDI⟩)
          · refine res_off hDL hDI l1 ?_
            intro p hp
            rcases List.mem_append.mp hp with hp | hp
            · rcases List.mem_singleton.mp hp with rfl
              refine ltN ?_
              dsimp only
              omega
            · exact htl p hp
          · intro p hp
            rcases List.mem_append.mp hp with hp | hp
            · rcases List.mem_singleton.mp hp with rfl
              refine ltN ?_
              dsimp only
              omega
            · exact htl p hp
        · rw [hbk] at hb
          obtain ⟨ba, bn, t4, t5, t6, rfl, hbm⟩ := bt_inv hb
          k_steps
          refine Hold.mk ?_
          k_here
          k_dflt (refine' conV_use (by k_asm) (by k_asm) (by k_asm) (by k_asm) (by k_asm) (by first | exact rfl | assumption) (is_jump_con _ _) True.intro (by ktr_room) (by ktr_units) ?_)
          rintro _ _ _ _ _ rfl
          dsimp only
          (try k_fold)
          k_steps
          refine Hold.mk ?_
          k_here
          k_dflt (refine ListComp_T (F₀ := by k_asm) (by with_unfolding_all rfl) (by decide) (by rfl) (by decide) (by rfl) ?_)
          k_steps
          refine Hold.mk ?_
          k_here
          k_dflt (refine' srcT_mk (by rfl) (by k_asm) (by k_asm) (by k_mem) (Nat.le_of_ble_eq_true rfl) ?_)
          intro g9
          refine (comp_ind 3 (fun k ys nw => nw = (IX, oI) :: (D, listOf ws.toArray nn) :: (L' + 1 + 1, o1) :: (L' + 1, o2) :: (news ++ tl) ∧ ∃ i, i + k = 3 ∧ IntsAre ys (([x, y, z].take i).map (threadF rs ls))) ?done2 ?step2 3 0 [] _ rfl ⟨rfl, 0, rfl, .nil⟩)
          case done2 =>
            rintro ys nw ⟨rfl, i, hi, hy⟩
            obtain rfl : i = 3 := by omega
            obtain ⟨t7, us7, e7, hy7⟩ := ints_cons_inv hy
            obtain ⟨t8, us8, e8, hy8⟩ := ints_cons_inv hy7
            obtain ⟨t9, us9, e9, hy9⟩ := ints_cons_inv hy8
            have e10 := ints_nil_inv hy9
            subst e10 e9 e8 e7
            clear hy hy7 hy8 hy9
            intro D5 h5 tk5 F5 N5 o5
            have h5D : @Ne Nat D D5 := o5.2.1
            k_steps
            have e9 : outF rs ls row = ⟨row.op, row.a, .t (threadF rs ls x) (threadF rs ls y) (threadF rs ls z), row.c⟩ := by
              obtain ⟨op, a, b, c⟩ := row
              simp only at hj hbk
              subst hbk
              simp [outF, hj]
            refine Hold.mk (unrw_end1 (by assumption) (led_fin2 (by assumption)) (fun _ h => h) ?_ ⟨⟨List.mem_cons_of_mem _ (List.mem_cons_of_mem _ (List.mem_cons_of_mem _ (List.mem_append.mpr (.inl hR)))), trivial⟩, pre ++ [row], post, D, [_, _] ++ tl, ws ++ [_], nn + 1, by rw [e0, List.append_assoc]; rfl, hv2, by with_unfolding_all rfl, rfl, dat_snoc _ [_, _] hw (by rw [e9]; exact datT (List.mem_append.mpr (.inr (.head _))) (List.mem_append.mpr (.inr (.tail _ (.head _))))), ?_, hDL, hDI⟩)
            · refine res_off hDL hDI l1 ?_
              intro p hp
              rcases List.mem_cons.mp hp with rfl | hp
              · refine ltN ?_
                dsimp only
                omega
              rcases List.mem_cons.mp hp with rfl | hp
              · refine ltN ?_
                dsimp only
                omega
              · exact htl p hp
            · intro p hp
              rcases List.mem_cons.mp hp with rfl | hp
              · refine ltN ?_
                dsimp only
                omega
              rcases List.mem_cons.mp hp with rfl | hp
              · refine ltN ?_
                dsimp only
                omega
              · exact htl p hp
          case step2 =>
            rintro k i ys nw v I5 oI5 C5 oC5 D5 m5 h5 tk5 E5 ⟨rfl, j, hj5, hy⟩ hki hP hns hm5 F5 N5 off5 ne5
            obtain ⟨lb, tv, rfl, hlb0, hlb1, htake⟩ : ∃ lb t, v = .int lb t ∧ 0 ≤ lb ∧ lb < NB ∧ [x, y, z].take (i + 1) = [x, y, z].take i ++ [lb] := by
              have : i = 0 ∨ i = 1 ∨ i = 2 := by omega
              rcases this with rfl | rfl | rfl
              · cases hP; exact ⟨_, _, rfl, x0, x1, rfl⟩
              · cases hP; exact ⟨_, _, rfl, y0, y1, rfl⟩
              · cases hP; exact ⟨_, _, rfl, z0, z1, rfl⟩
            k_steps
            refine Hold.mk ?_
            k_here
            k_dflt (refine' conV_use (by k_asm) (by k_asm) (by k_asm) (by k_asm) (by k_asm) (by first | exact rfl | assumption) (threaded_con _ _ _ _ _ _ _ (by assumption) (by omega) (by omega)) ⟨⟨_, _, by k_mem, datAll_sub (by assumption) (by kqd_sub)⟩, ⟨_, _, by k_mem, by assumption⟩⟩ (by ktr_room) (by ktr_units) ?_)
            rintro _ _ _ _ _ ⟨_, rfl⟩
            dsimp only
            (try k_fold)
            k_steps
            refine Hold.mk (CompEnd.intro (by assumption) (by assumption) ((IX, oI) :: (D, listOf ws.toArray nn) :: (L' + 1 + 1, o1) :: (L' + 1, o2) :: (news ++ tl)) (by kqd_sub) (by assumption) ?_ ⟨rfl, j + 1, by omega, ?_⟩)
            · exact List.mem_cons_of_mem _ (List.mem_cons_of_mem _ (List.mem_cons_of_mem _ (List.mem_cons_of_mem _ (List.mem_append.mpr (.inl hbm)))))
            · obtain rfl : i = j := by omega
              rw [htake, List.map_append]
              exact hy.append (.cons _ _ .nil)
end Mine
end

section
open PySem PySem.W PyProof.Rows PySem.Calls PySem.Spec PyProof.Rows.LCg
namespace Mine

theorem iterF_comm (rs : List Row) (ls : List Int) : ∀ (k : Nat) (x : Int), iterF rs ls (k + 1) x = stepF rs ls (iterF rs ls k x)
  | 0, _ => rfl
  | k + 1, x => iterF_comm rs ls k (stepF rs ls x)
noncomputable def itersL (rs : List Row) (ls : List Int) (k : Nat) (x : Int) : List Int := (List.range (k + 1)).map fun i => iterF rs ls i x
theorem itersL_succ (rs : List Row) (ls : List Int) (k : Nat) (x : Int) : itersL rs ls (k + 1) x = itersL rs ls k x ++ [iterF rs ls (k + 1) x] := by
  simp [itersL, List.range_succ]
theorem itersL_last (rs : List Row) (ls : List Int) (k : Nat) (x : Int) : ∃ pre, itersL rs ls k x = pre ++ [iterF rs ls k x] := ⟨(List.range k).map fun i => iterF rs ls i x, by simp [itersL, List.range_succ]⟩
theorem itersL_len (rs : List Row) (ls : List Int) (k : Nat) (x : Int) : (itersL rs ls k x).length = k + 1 := by simp [itersL]
theorem mem_itersL {rs : List Row} {ls : List Int} {k : Nat} {x y : Int} : y ∈ itersL rs ls k x ↔ ∃ i, i ≤ k ∧ y = iterF rs ls i x := by
  simp only [itersL, List.mem_map, List.mem_range]
  constructor
  · rintro ⟨i, hi, rfl⟩; exact ⟨i, by omega, rfl⟩
  · rintro ⟨i, hi, rfl⟩; exact ⟨i, by omega, rfl⟩
theorem WF.step {N : Int} {rs : List Row} {ls : List Int} (W : WF N rs ls) {x : Int} (h0 : 0 ≤ x) (h1 : x < rs.length) : 0 ≤ stepF rs ls x ∧ stepF rs ls x < rs.length := by
  rw [stepF]
  split
  · have f := (rowFacts (W.rows _ (W.row h0 h1).1)).a4 (.inl (by assumption))
    exact W.lab _ f.1 f.2
  · exact ⟨h0, h1⟩
theorem WF.iter {N : Int} {rs : List Row} {ls : List Int} (W : WF N rs ls) : ∀ (k : Nat) {x : Int}, 0 ≤ x → x < rs.length → 0 ≤ iterF rs ls k x ∧ iterF rs ls k x < rs.length
  | 0, _, h0, h1 => ⟨h0, h1⟩
  | k + 1, _, h0, h1 => W.iter k (W.step h0 h1).1 (W.step h0 h1).2
def WayP (rs : List Row) (ls : List Int) (x0 : Int) (ws : List Int) : Prop := ∃ k, k ≤ rs.length ∧ ws = itersL rs ls k x0 ∧ ((rowA rs (iterF rs ls k x0)).op = 259 → stepF rs ls (iterF rs ls k x0) ∈ itersL rs ls k x0)
theorem way_closed {rs : List Row} {ls : List Int} {x0 : Int} {k : Nat} (h : (rowA rs (iterF rs ls k x0)).op = 259 → stepF rs ls (iterF rs ls k x0) ∈ itersL rs ls k x0) : ∀ n, iterF rs ls n x0 ∈ itersL rs ls k x0
  | 0 => mem_itersL.mpr ⟨0, Nat.zero_le _, rfl⟩
  | n + 1 => by
    obtain ⟨i, hi, e⟩ := mem_itersL.mp (way_closed h n)
    rw [iterF_comm, e]
    rcases Nat.lt_or_ge i k with h1 | h1
    · rw [← iterF_comm]; exact mem_itersL.mpr ⟨i + 1, h1, rfl⟩
    · obtain rfl : i = k := by omega
      by_cases h2 : (rowA rs (iterF rs ls i x0)).op = 259
      · exact h h2
      · rw [stepF, if_neg h2]; exact mem_itersL.mpr ⟨i, Nat.le_refl _, rfl⟩
theorem iter_fix {rs : List Row} {ls : List Int} {x : Int} (h : (rowA rs x).op ≠ 259) : ∀ n, iterF rs ls n x = x
  | 0 => rfl
  | n + 1 => by rw [iterF_comm, iter_fix h n, stepF, if_neg h]
theorem iter_add (rs : List Row) (ls : List Int) (x : Int) : ∀ (a b : Nat), iterF rs ls (a + b) x = iterF rs ls b (iterF rs ls a x)
  | 0, b => by rw [Nat.zero_add]; rfl
  | a + 1, b => by rw [show a + 1 + b = (a + b) + 1 by omega]; exact iter_add rs ls (stepF rs ls x) a b
theorem way_end {rs : List Row} {ls : List Int} {x0 : Int} {k : Nat} (hk : k ≤ 8) (h : (rowA rs (iterF rs ls k x0)).op ≠ 259) : iterF rs ls 8 x0 = iterF rs ls k x0 := by
  rw [show 8 = k + (8 - k) by omega, iter_add, iter_fix h]

theorem filt_lt (p q : Nat → Bool) (a : Nat) : ∀ (l : List Nat), (∀ x ∈ l, q x = true → p x = true) → a ∈ l → p a = true → q a = false → (l.filter q).length < (l.filter p).length
  | [], _, h, _, _ => nomatch h
  | x :: l, hs, ha, pa, qa => by
    have le : ∀ (l : List Nat), (∀ x ∈ l, q x = true → p x = true) → (l.filter q).length ≤ (l.filter p).length := by
      intro l
      induction l with
      | nil => exact fun _ => Nat.le_refl _
      | cons y l ih =>
        intro hs
        have i := ih fun x hx => hs x (.tail _ hx)
        have hy := hs y (.head _)
        cases hq : q y <;> cases hp : p y <;> simp [List.filter_cons, hq, hp] at hy ⊢ <;> omega
    have hx := hs x (.head _)
    have hs' : ∀ x ∈ l, q x = true → p x = true := fun y hy => hs y (.tail _ hy)
    rcases List.mem_cons.mp ha with rfl | ha
    · have := le l hs'
      simp [List.filter_cons, pa, qa]; omega
    · have i := filt_lt p q a l hs' ha pa qa
      cases hq : q x <;> cases hp : p x <;> simp [List.filter_cons, hq, hp] at hx ⊢ <;> omega
def leftN (n : Nat) (ws : List Int) : Nat := ((List.range n).filter fun (i : Nat) => !ws.any (· == (i : Int))).length
theorem leftN_lt {n : Nat} {ws : List Int} {y : Int} (h0 : 0 ≤ y) (h1 : y < n) (hy : ws.any (· == y) = false) : leftN n (ws ++ [y]) < leftN n ws := by
  refine filt_lt _ _ y.toNat _ (fun x _ hx => ?_) (List.mem_range.mpr (by omega)) ?_ ?_
  · simp only [List.any_append, Bool.not_eq_true', Bool.or_eq_false_iff] at hx ⊢
    exact hx.1
  · rw [show ((y.toNat : Nat) : Int) = y by omega, hy]; rfl
  · rw [show ((y.toNat : Nat) : Int) = y by omega]; simp

section
variable {prog : Program} {w : World} {A : Around} {E : Value → Shared → Prop} {s : Shared} {h₀ : Heap} {L l : Addr}
theorem last_at {value slice : PySem.Expr} {nws : Led} {us : List Value} {ns pre : List Int} {x : Int} {n : Nat} {u : Tok} {Q : Value → Shared → Prop} (Nw : News h₀ L s.heap nws) (hm : (l, listOf us.toArray n) ∈ nws) (hd : IntsAre us ns) (e : ns = pre ++ [x])
    (h : ∀ t, Q (.int x t) s)
    (hs : subscripted slice false (.ref l) (.int (-1) u) = operate [.ref l, .int (-1) u] (getItem (.ref l) (.int (-1) u)) := by with_unfolding_all rfl) :
    wpAny (model prog w) A (subscriptTail value slice (.ref l) (.int (-1) u)) Q E s := by
  have hl : s.heap.IsList l us.toArray := ⟨_, (Nw _ hm).1, rfl, n, rfl⟩
  subst e
  have hlen := hd.length
  rw [List.length_append, List.length_singleton] at hlen
  obtain ⟨t, ht⟩ := hd.get pre.length x (by simp)
  refine kde_neg (j := pre.length) hl (by decide) (by decide) ?_ ht (h t) hs
  rw [hlen]
  simp only [seqIndex?]
  have e1 : (-1 : Int) + ((pre.length + 1 : Nat) : Int) = (pre.length : Int) := by omega
  rw [if_pos (show (-1 : Int) < 0 by decide), e1]
  rw [if_pos (by simp; omega)]
  simp
end
theorem any_mem {ns : List Int} {y : Int} (h : (ns.any fun x => x == y) = true) : y ∈ ns := by
  obtain ⟨x, hx, e⟩ := List.any_eq_true.mp h
  rw [beq_iff_eq] at e
  exact e ▸ hx
theorem led_push {g h : Heap} {L D : Addr} {vs : List Value} {x : Value} {n : Nat} {news : Led} (N : News g L h ((D, listOf (vs.toArray.push x) n) :: news)) : News g L h ((D, listOf (vs ++ [x]).toArray n) :: news) := by
  rw [List.push_toArray] at N; exact N
theorem ints_snoc {vs : List Value} {ns : List Int} {x : Int} {t : Tok} (h : IntsAre vs ns) : IntsAre (vs ++ [.int x t]) (ns ++ [x]) := h.append (.cons _ _ .nil)

section
local macro_rules | `(tactic| walk_at $s:str) => if ["UnrEndW", "WhileStep2", "exec While", "exec While Compare", "exec While BoolOp", "last exec While"].contains (Lean.TSyntax.getString s) then `(tactic| refine Hold.out ?_) else Lean.Macro.throwUnsupported
local macro_rules | `(tactic| k_all) => `(tactic| assumption)
local macro_rules | `(tactic| size_fits) => `(tactic| assumption)
local macro_rules | `(tactic| walk_at "ite") => `(tactic| (k_here; k_openite; first | refine ite_isFalse (by with_reducible assumption) ?_ | refine ite_pos (by first | with_reducible assumption | omega | (rw [beq_iff_eq]; omega) | (rw [decide_eq_true_eq]; omega)) ?_ | refine ite_neg (by first | omega | (rw [beq_iff_eq]; omega) | (rw [decide_eq_true_eq]; omega)) ?_))
local macro_rules | `(tactic| walk_at "subscriptTail") => `(tactic| (k_here; (with_unfolding_all refine' lab_at (by assumption) (by k_asm) (by k_mem) (by assumption) (by omega) (by omega) ?_ (by with_unfolding_all rfl)); intro t' hlo' hhi'))
local macro_rules | `(tactic| walk_at "subscriptTail") => `(tactic| (k_here; (with_unfolding_all refine' row_at (by assumption) (by k_asm) (by k_mem) (by assumption) (by omega) (by omega) ?_ (by with_unfolding_all rfl)); intro a' n' t1' t2' t3' vb' hm' hb' hf'; have hf1' := hf'.a4; have hf2' := hf'.a3))
local macro_rules | `(tactic| walk_at "subscriptTail Name UnaryOp ref int") => `(tactic| (k_here; (with_reducible show wpAny _ _ (subscriptTail _ _ (Value.ref _) (Value.int (-1) _)) _ _ _); (with_unfolding_all refine' last_at (by k_asm) (by k_mem) (by assumption) (by assumption) ?_ (by with_unfolding_all rfl)); intro t'))
local macro_rules | `(tactic| walk_at "compareOp NotIn int ref") => `(tactic| (refine notin_list_ints (News.isList (by k_asm) (by k_mem)) (by assumption) ?_))
local macro_rules | `(tactic| walk_at "compareOp In int ref") => `(tactic| (refine in_list_ints (News.isList (by k_asm) (by k_mem)) (by assumption) ?_))

theorem way_con {w mean mg mb} (NB : Int) (rl ll : Addr) (rs : List Row) (ls : List Int) (lb : Int) (t : Tok) (W : WF NB rs ls) (hl0 : 0 ≤ lb) (hl1 : lb < NB) :
    Con w mean mg mb 75 1 [.ref rl, .ref ll, .int lb t] (fun news => RowsAt news rl rs ∧ IntsAt news ll ls) (fun nw r => ∃ D ws, r = .ref D ∧ IntsAt nw D ws ∧ WayP rs ls (ls.getD lb.toNat 0) ws) := by
  unfold Con
  k_fill
  rintro dp un gd cn cs a ccd cl outer A₀ base h₀ L m news s Q E B F X N T hk ⟨⟨us, n, hR, hD⟩, ⟨us', n', hL, hI⟩⟩ hd9 hu hret
  have kMark := kdMark
  refine wpAny_call ?_
  k_dflt ktr_enter
  k_steps
  obtain ⟨x0, hx0⟩ : ∃ x0, x0 = ls.getD lb.toNat 0 := ⟨_, rfl⟩
  have hx := W.lab lb hl0 hl1
  rw [← hx0] at hx
  refine Hold.mk (While_inv2 (n₀ := leftN rs.length (itersL rs ls 0 x0)) (fun μ m nx => ∃ (k : Nat) (D : Addr) (vs : List Value) (nn : Nat), m (Str.ofString "found") = some (.ref D) ∧ m (Str.ofString "rows") = some (.ref rl) ∧ m (Str.ofString "labels") = some (.ref ll) ∧
    nx = (D, listOf vs.toArray nn) :: news ∧ IntsAre vs (itersL rs ls k x0) ∧ (∀ q ∈ news, @LT.lt Nat _ q.1 D) ∧ μ = leftN rs.length (itersL rs ls k x0) ∧ (k + 1) + μ ≤ rs.length + 1) (by assumption) (by assumption) ?init ?turn)
  case init =>
    refine ⟨0, _, [_], 0, by with_unfolding_all rfl, by with_unfolding_all rfl, by with_unfolding_all rfl, rfl, ?_, by assumption, rfl, ?_⟩
    · rw [hx0]; exact .cons _ _ .nil
    · have h1 : leftN rs.length (itersL rs ls 0 x0) ≤ rs.length := by
        refine Nat.le_trans (List.length_filter_le _ _) ?_
        rw [List.length_range]; exact Nat.le_refl _
      omega
  case turn =>
    rintro μ m₁ nx h₁ tk₁ F₁ N₁ ⟨k, D, vs, nn, e1, e2, e3, rfl, hv, hD5, hμ, hk5⟩
    have F₂ := fr_sets [(Str.ofString "found", .ref D), (Str.ofString "rows", .ref rl), (Str.ofString "labels", .ref ll)] F₁ (by simp (decide := true) [e1, e2, e3])
    clear F₁
    obtain ⟨ns, hns⟩ : ∃ ns, ns = itersL rs ls k x0 := ⟨_, rfl⟩
    obtain ⟨x, hxk⟩ : ∃ x, x = iterF rs ls k x0 := ⟨_, rfl⟩
    obtain ⟨pre, hpre⟩ := itersL_last rs ls k x0
    have hxr := W.iter k hx.1 hx.2
    rw [← hns] at hv hpre hμ
    rw [← hxk] at hpre hxr
    have hx1 := hxr.1
    have hx2 := hxr.2
    have hlen := hv.length
    rw [hns, itersL_len] at hlen
    have hws : vs.toArray.size ≤ sizeLine := by
      have h2 := W.le
      rw [List.size_toArray, PySem.sizeLine_eq]; omega
    have hoff : ∀ p ∈ news, p.1 ≠ D := fun p hp => Nat.ne_of_lt (hD5 p hp)
    k_steps
    · refine hret _ [(D, listOf vs.toArray nn)] _ _ (by k_asm) (ktn_tl1 (by assumption)) (fun q hq p hp => by rw [List.mem_singleton.mp hp]; exact hD5 q hq) ⟨D, ns, rfl, ⟨vs, nn, List.mem_append.mpr (.inr (.head _)), hv⟩, ⟨k, by omega, by rw [← hx0]; exact hns, fun _ => ?_⟩⟩
      rw [← hx0, ← hxk, ← hns, stepF, if_pos (by assumption)]
      exact any_mem (by assumption)
    · have e8 : stepF rs ls x = ls.getD (rowA rs x).a.toNat 0 := by rw [stepF, if_pos (by assumption)]
      have e9 : itersL rs ls (k + 1) x0 = ns ++ [ls.getD (rowA rs x).a.toNat 0] := by rw [itersL_succ, iterF_comm, ← hxk, e8, hns]
      have hr8 := W.step hx1 hx2
      rw [e8] at hr8
      have hlt : leftN rs.length (itersL rs ls (k + 1) x0) < leftN rs.length ns := by rw [e9]; exact leftN_lt hr8.1 hr8.2 (by assumption)
      refine Hold.mk ⟨_, _, _, _, leftN rs.length (itersL rs ls (k + 1) x0), rfl, by assumption, led_push (by assumption), by rw [hμ]; exact hlt, k + 1, D, vs ++ [_], nn + 1, by with_unfolding_all rfl, by with_unfolding_all rfl, by with_unfolding_all rfl, rfl, by rw [e9]; exact ints_snoc hv, hD5, rfl, by omega⟩
    · refine hret _ [(D, listOf vs.toArray nn)] _ _ (by k_asm) (ktn_tl1 (by assumption)) (fun q hq p hp => by rw [List.mem_singleton.mp hp]; exact hD5 q hq) ⟨D, ns, rfl, ⟨vs, nn, List.mem_append.mpr (.inr (.head _)), hv⟩, ⟨k, by omega, by rw [← hx0]; exact hns, fun h => ?_⟩⟩
      rw [← hx0, ← hxk] at h
      exact absurd h (by assumption)

theorem wayLen {NB : Int} {rs : List Row} {ls ws : List Int} {x0 : Int} (W : WF NB rs ls) (h : WayP rs ls x0 ws) : ws.length ≤ 13 := by
  obtain ⟨k, hk, rfl, _⟩ := h
  have := W.le
  rw [itersL_len]; omega
theorem wayQ {NB : Int} {rs : List Row} {ls ws : List Int} {lb : Int} (W : WF NB rs ls) (hl0 : 0 ≤ lb) (hl1 : lb < NB) (h : WayP rs ls (ls.getD lb.toNat 0) ws) :
    ∃ (x : Int) (pre : List Int), ws = pre ++ [x] ∧ 0 ≤ x ∧ x < rs.length ∧ (ws.length < 10 → (rowA rs x).op ≠ 259 → threadF rs ls lb = x) ∧ (ws.any fun y => y == threadF rs ls lb) = true := by
  obtain ⟨k, _, rfl, hc⟩ := h
  obtain ⟨pre, hp⟩ := itersL_last rs ls k (ls.getD lb.toNat 0)
  have hx := W.lab lb hl0 hl1
  have hr := W.iter k hx.1 hx.2
  refine ⟨_, pre, hp, hr.1, hr.2, fun hl ho => ?_, ?_⟩
  · rw [itersL_len] at hl
    exact way_end (by omega) ho
  · exact List.any_eq_true.mpr ⟨_, way_closed hc 8, by rw [beq_iff_eq]; rfl⟩
section
variable {prog : Program} {w : World} {A : Around} {E : Value → Shared → Prop} {s : Shared} {h₀ : Heap} {L l : Addr}
theorem ints_len {ns : List Int} {nws : Led} {us : List Value} {n : Nat} {Q : Value → Shared → Prop} (Nw : News h₀ L s.heap nws) (hm : (l, listOf us.toArray n) ∈ nws) (hd : IntsAre us ns) (hz : (ns.length : Int) < 2 ^ 63)
    (h : Q (.int (ns.length : Int) (s.toks + 1)) { s with toks := s.toks + 1 + 1 }) : wpAny (model prog w) A (call (.builtin "len") [.ref l]) Q E s := by
  have hl : s.heap.IsList l us.toArray := ⟨_, (Nw _ hm).1, rfl, n, rfl⟩
  have e : us.toArray.size = ns.length := by rw [List.size_toArray, hd.length]
  exact len_list hl (by rw [e]; exact hz) (by rw [e]; exact h)
end
section
local macro_rules | `(tactic| walk_at "call ref") => `(tactic| refine Hold.out ?_)
local macro_rules | `(tactic| walk_at "call builtin:len") => `(tactic| (k_here; k_dflt (refine' ints_len (by k_asm) (by k_mem) (by assumption) (by omega) ?_)))
theorem is_goal_con {w mean mg mb} (NB : Int) (rl ll : Addr) (rs : List Row) (ls : List Int) (lb g : Int) (t t2 : Tok) (W : WF NB rs ls) (hl0 : 0 ≤ lb) (hl1 : lb < NB) (hg : g = threadF rs ls lb) :
    ConV w mean mg mb 82 2 [.ref rl, .ref ll, .int lb t, .int g t2] (fun news => RowsAt news rl rs ∧ IntsAt news ll ls) (fun r => r = .bool true) := by
  unfold ConV
  k_fill
  rintro dp un gd cn cs a ccd cl outer A₀ base h₀ L m news s Q E B F X N T hk ⟨⟨us, n, hR, hD⟩, ⟨us', n', hL, hI⟩⟩ hd9 hu hret
  have kMark := kdMark
  refine wpAny_call ?_
  k_dflt ktr_enter
  k_steps
  refine Hold.mk ?_
  k_here
  k_dflt (refine' con_use (by k_asm) (by k_asm) (by k_asm) (by k_asm) (by k_asm) (by first | exact rfl | assumption) (way_con _ _ _ _ _ _ _ (by assumption) (by omega) (by omega)) ⟨⟨_, _, by k_mem, datAll_sub (by assumption) (by kqd_sub)⟩, ⟨_, _, by k_mem, by assumption⟩⟩ (by ktr_room) (by ktr_units) ?_)
  rintro _ tl6 h6 tk6 F6 N6 hl6 ⟨D6, ws6, rfl, ⟨vs6, nn6, hm6, hv6⟩, hP6⟩
  obtain ⟨x6, pre6, ep6, hx06, hx16, hq16, hq26⟩ := wayQ W hl0 hl1 hP6
  have hz6 := wayLen W hP6
  clear hP6
  dsimp only
  (try k_fold)
  k_steps
  all_goals (refine hret _ _ _ (by k_asm) (cb_drop (by assumption) (by kqd_sub)) (congrArg Value.bool ?_))
  all_goals first
    | (rw [hg]; assumption)
    | (rw [beq_iff_eq, hg]; refine (by assumption : List.length _ < 10 → (rowA rs _).op ≠ 259 → threadF rs ls lb = _) (by omega) (by assumption))
end

end
end Mine
end

section
open PySem PySem.W PyProof.Rows PySem.Calls PySem.Spec PyProof.Rows.LCg
namespace Mine
section
variable {prog : Program} {w : World} {A : Around} {E : Value → Shared → Prop} {s : Shared}

structure Stp (prog : Program) (w : World) (A : Around) (i : Addr) (fr : List Addr) (xs : Nat → Option Value) (S : Nat → Heap → Prop) : Prop where
  frame : ∀ k h h', S k h → (∀ b ∈ fr, ∀ o, h.get? b = some o → h'.get? b = some o) → S k h'
  item : ∀ k x (s : Shared) (Q E : Value → Shared → Prop), S k s.heap → xs k = some x → (∀ h', S (k + 1) h' → Heap.SameBut i s.heap h' → Q x { s with heap := h' }) → wpAny (model prog w) A (Builtin.SmallTypes.nextOf (.ref i)) Q E s
  stop : ∀ k (s : Shared) (Q E : Value → Shared → Prop), S k s.heap → xs k = none → (∀ h' e, Heap.ExtBut i s.heap h' → (∃ o, h'.get? e = some o ∧ o.cls = .type "StopIteration") → E (.ref e) { s with heap := h' }) → wpAny (model prog w) A (Builtin.SmallTypes.nextOf (.ref i)) Q E s

theorem stp_tup (hh : A.handled = none) (i t : Addr) (hne : t ≠ i) (items : Array Value) : Stp prog w A i [i, t] (fun k => items[k]?) (fun k h => h.IsTupleIter i t k ∧ h.IsTuple t items) where
  frame := fun k h h' st hk => ⟨by obtain ⟨o, e, r⟩ := st.1; exact ⟨o, hk i (by simp) o e, r⟩, by obtain ⟨o, e, r⟩ := st.2; exact ⟨o, hk t (by simp) o e, r⟩⟩
  item := fun k x s Q E st hx hQ => by
    obtain ⟨o, ho, hc, hd⟩ := st.1
    obtain ⟨ol, hol, hcl, nl, hdl⟩ := st.2
    unfold Builtin.SmallTypes.nextOf
    refine wpAny_bind (wpAny_callSpecial?_slot (name := Str.ofString "__next__") st.1.typeIs F.slot_tuple_iterator_next
      (wpAny_call_entry F.slot_tuple_iterator_next st.1.typeIs F.entry_tuple_iterator_next ?_ (F.args_tuple_iterator_next_1 _)))
    show wpAny _ _ (field (.ref i) 0 >>= _) _ _ s
    refine wpAny_bind (wpAny_field ho hd (x := .ref t) rfl ?_)
    show wpAny _ _ (if (Value.ref t == Value.none) = true then _ else _) _ _ s
    rw [if_neg (show ¬ ((Value.ref t == Value.none) = true) from Bool.false_ne_true)]
    show wpAny _ _ (field (.ref i) 1 >>= _) _ _ s
    refine wpAny_bind (wpAny_field ho hd (x := .int k 0) rfl ?_)
    show wpAny _ _ (seqItems? (.ref t) >>= _) _ _ s
    refine wpAny_bind (wpAny_seqItems hol hdl ?_)
    simp only [Int.toNat_natCast, hx]
    refine wpAny_bind (wpAny_setField ho hd (by simp) (wpAny_pure ⟨x, rfl, wpAny_pure (hQ _ ⟨?_, ?_⟩ (Heap.SameBut.update ..))⟩))
    · exact ⟨_, Heap.get?_update_self _ ho (Obj.isFreed_of_fields (Obj.data_mapFields hd _)), (Obj.cls_mapFields ..).trans hc, by
        rw [Obj.data_mapFields hd]; simp [rawInt]⟩
    · exact ⟨ol, (Heap.SameBut.update ..).extBut _ _ hne hol, hcl, nl, hdl⟩
  stop := fun k s Q E st hx hE => by
    obtain ⟨o, ho, hc, hd⟩ := st.1
    obtain ⟨ol, hol, hcl, nl, hdl⟩ := st.2
    unfold Builtin.SmallTypes.nextOf
    refine wpAny_bind (wpAny_callSpecial?_slot (name := Str.ofString "__next__") st.1.typeIs F.slot_tuple_iterator_next
      (wpAny_call_entry F.slot_tuple_iterator_next st.1.typeIs F.entry_tuple_iterator_next ?_ (F.args_tuple_iterator_next_1 _)))
    show wpAny _ _ (field (.ref i) 0 >>= _) _ _ s
    refine wpAny_bind (wpAny_field ho hd (x := .ref t) rfl ?_)
    show wpAny _ _ (if (Value.ref t == Value.none) = true then _ else _) _ _ s
    rw [if_neg (show ¬ ((Value.ref t == Value.none) = true) from Bool.false_ne_true)]
    show wpAny _ _ (field (.ref i) 1 >>= _) _ _ s
    refine wpAny_bind (wpAny_field ho hd (x := .int k 0) rfl ?_)
    show wpAny _ _ (seqItems? (.ref t) >>= _) _ _ s
    refine wpAny_bind (wpAny_seqItems hol hdl ?_)
    simp only [Int.toNat_natCast, hx]
    refine wpAny_bind (wpAny_rule (wpAny_bind (wpAny_setField ho hd (by simp) ?_)))
    show wpAny _ _ (newExc (.type "StopIteration") [] >>= _) _ _ _
    refine wpAny_bind ?_
    simp only [newExc, newTuple]
    refine wpAny_bind (wpAny_newObj_type ?_ (by size_fits))
    refine wpAny_bind (m := firstArgMember _ _) (wpAny_of_eq (a := Value.none) (by first | rfl | (simp only [firstArgMember]; rfl)) ?_)
    refine wpAny_newObj_type ?_ (by size_fits)
    simp only [raiseNew]
    refine wpAny_bind (wpAny_handled ?_)
    first | rw [show A.in1.handled = none from hh] | rw [hh]
    refine wpAny_bind (wpAny_pure (wpAny_throw ?_))
    exact hE _ _ (((Heap.SameBut.update ..).extBut.push _).push _) ⟨_, Heap.get?_push_size _ rfl, rfl⟩

structure Apt (z TI TO i1 i2 : Addr) (fr1 fr2 : List Addr) : Prop where
  TIz : TI ≠ z
  TOz : TO ≠ z
  TITO : TI ≠ TO
  TIi1 : TI ≠ i1
  TIi2 : TI ≠ i2
  TOi1 : TO ≠ i1
  TOi2 : TO ≠ i2
  i1z : i1 ≠ z
  i2z : i2 ≠ z
  f1 : ∀ b ∈ fr1, b ≠ z ∧ b ≠ TO ∧ b ≠ i2
  f2 : ∀ b ∈ fr2, b ≠ z ∧ b ≠ TO ∧ b ≠ i1

theorem zips_item {z TI TO i1 i2 : Addr} {fr1 fr2 : List Addr} {xs ys : Nat → Option Value} {S1 S2 : Nat → Heap → Prop} {k : Nat} {x y a b : Value} {Q : Value → Shared → Prop} (D : Apt z TI TO i1 i2 fr1 fr2) (W1 : Stp prog w A i1 fr1 xs S1) (W2 : Stp prog w A i2 fr2 ys S2)
    (hz : IsZip s.heap z TI TO .none) (hTI : IsPair s.heap TI (.ref i1) (.ref i2)) (hTO : IsPair s.heap TO a b) (h1 : S1 k s.heap) (h2 : S2 k s.heap) (hx : xs k = some x) (hy : ys k = some y)
    (hQ : ∀ h', IsZip h' z TI TO (rawInt s.heap.objs.size) → IsPair h' TO x y → S1 (k + 1) h' → S2 (k + 1) h' → IsPair h' s.heap.objs.size x y → h'.objs.size = s.heap.objs.size + 1 →
      (∀ c o, c ≠ z → c ≠ TO → c ≠ i1 → c ≠ i2 → s.heap.get? c = some o → h'.get? c = some o) → Q (.ref s.heap.objs.size) { s with heap := h' }) :
    wpAny (model prog w) A (Builtin.«zip.__next__» ⟨[.ref z], []⟩) (fun fin s' => ∃ v, fin = .done (.ret v) ∧ Q v s') E s := by
  show wpAny _ _ (field (.ref z) 2 >>= _) _ _ _
  refine wpAny_bind (wpAny_field hz rfl (x := .bool false) rfl ?_)
  show wpAny _ _ (field (.ref z) 3 >>= _) _ _ _
  refine wpAny_bind (wpAny_field hz rfl (x := .ref TI) rfl ?_)
  refine wpAny_bind (wpAny_seqItems hTI rfl ?_)
  show wpAny _ _ (Builtin.SmallTypes.ownedTupleIsFree (.ref z) >>= _) _ _ _
  refine wpAny_bind ?_
  unfold Builtin.SmallTypes.ownedTupleIsFree
  refine wpAny_bind (wpAny_field hz rfl (x := .none) rfl (wpAny_pure ?_))
  simp only [if_true]
  refine wpAny_bind (wpAny_rule ?_)
  refine wpAny_bind (wpAny_field hz rfl (x := .ref TO) rfl ?_)
  refine wpAny_bind (wpAny_setField_rec hz (by simp) fun ha hza sa => ?_)
  replace hza : IsZip ha z TI TO .ellipsis := hza
  refine wpAny_bind ?_
  simp only [List.zipIdx_cons, List.zipIdx_nil, List.forIn_cons, List.forIn_nil]
  have h1a : S1 k ha := W1.frame _ _ _ h1 fun c hc o e => sa.extBut _ _ (D.f1 c hc).1 e
  have h2a : S2 k ha := W2.frame _ _ _ h2 fun c hc o e => sa.extBut _ _ (D.f2 c hc).1 e
  have hTOa : IsPair ha TO a b := sa.extBut _ _ D.TOz hTO
  refine wpAny_bind (wpAny_bind (wpAny_onRaise ?_))
  show wpAny _ _ (Builtin.SmallTypes.nextOf (.ref i1) >>= _) _ _ _
  refine wpAny_bind (W1.item k x _ _ _ h1a hx fun hb h1b sb => wpAny_pure ?_)
  have hTOb : IsPair hb TO a b := sb.extBut _ _ D.TOi1 hTOa
  refine wpAny_bind (wpAny_seqItems hTOb rfl ?_)
  refine wpAny_bind (wpAny_updateSeq_pair hTOb fun hc hTOc sc => ?_)
  replace hTOc : IsPair hc TO x b := hTOc
  refine wpAny_bind (wpAny_letGo (wpAny_pure ?_))
  have h2c : S2 k hc := W2.frame _ _ _ h2a fun c hc' o e => sc.extBut _ _ (D.f2 c hc').2.1 (sb.extBut _ _ (D.f2 c hc').2.2 e)
  have h1c : S1 (k + 1) hc := W1.frame _ _ _ h1b fun c hc' o e => sc.extBut _ _ (D.f1 c hc').2.1 e
  refine wpAny_bind (wpAny_bind (wpAny_onRaise ?_))
  show wpAny _ _ (Builtin.SmallTypes.nextOf (.ref i2) >>= _) _ _ _
  refine wpAny_bind (W2.item k y _ _ _ h2c hy fun hd h2d sd => wpAny_pure ?_)
  have hTOd : IsPair hd TO x b := sd.extBut _ _ D.TOi2 hTOc
  refine wpAny_bind (wpAny_seqItems hTOd rfl ?_)
  refine wpAny_bind (wpAny_updateSeq_pair hTOd fun he hTOe se => ?_)
  replace hTOe : IsPair he TO x y := hTOe
  refine wpAny_bind (wpAny_letGo (wpAny_pure (wpAny_pure ?_)))
  have h1e : S1 (k + 1) he := W1.frame _ _ _ h1c fun c hc' o e => se.extBut _ _ (D.f1 c hc').2.1 (sd.extBut _ _ (D.f1 c hc').2.2 e)
  have h2e : S2 (k + 1) he := W2.frame _ _ _ h2d fun c hc' o e => se.extBut _ _ (D.f2 c hc').2.1 e
  refine wpAny_bind (wpAny_seqItems hTOe rfl ?_)
  refine wpAny_bind (wpAny_newTuple ?_)
  have hsz : he.objs.size = s.heap.objs.size := by rw [se.1, sd.1, sc.1, sb.1, sa.1]
  have hze : IsZip he z TI TO .ellipsis := se.extBut _ _ D.TOz.symm (sd.extBut _ _ D.i2z.symm (sc.extBut _ _ D.TOz.symm (sb.extBut _ _ D.i1z.symm hza)))
  have keep : ∀ c o, c ≠ z → c ≠ TO → c ≠ i1 → c ≠ i2 → s.heap.get? c = some o → he.get? c = some o := fun c o c1 c2 c3 c4 e =>
    se.extBut _ _ c2 (sd.extBut _ _ c4 (sc.extBut _ _ c2 (sb.extBut _ _ c3 (sa.extBut _ _ c1 e))))
  have hzlt : z < he.objs.size := Heap.lt_size hze
  show wpAny _ _ (Builtin.SmallTypes.ownedTupleHandOut (.ref z) (.ref he.objs.size) >>= _) _ _ _
  refine wpAny_bind ?_
  unfold Builtin.SmallTypes.ownedTupleHandOut
  have hzf : IsZip (he.push { cls := .type "tuple", data := .seq #[x, y] }) z TI TO .ellipsis := Heap.get?_push_of_some _ hze
  refine wpAny_bind (wpAny_setField_rec hzf (by simp) fun hg hzg sg => ?_)
  replace hzg : IsZip hg z TI TO (rawInt he.objs.size) := hzg
  refine wpAny_setField_rec hzg (by simp) fun hl hzl sl => ?_
  replace hzl : IsZip hl z TI TO (rawInt he.objs.size) := hzl
  have up : ∀ c o, c ≠ z → he.get? c = some o → hl.get? c = some o := fun c o c1 e => sl.extBut _ _ c1 (sg.extBut _ _ c1 (Heap.get?_push_of_some _ e))
  have hT : IsPair hl he.objs.size x y := sl.extBut _ _ (Nat.ne_of_gt hzlt) (sg.extBut _ _ (Nat.ne_of_gt hzlt) (Heap.get?_push_size _ rfl))
  have hz8 : hl.objs.size = he.objs.size + 1 := by rw [sl.1, sg.1, Heap.size_push]
  rw [hsz] at hzl hT hz8
  refine wpAny_pure ⟨_, rfl, ?_⟩
  show Q (.ref he.objs.size) _
  rw [hsz]
  exact hQ hl hzl (up _ _ D.TOz hTOe) (W1.frame _ _ _ h1e fun c hc' o e => up c o (D.f1 c hc').1 e) (W2.frame _ _ _ h2e fun c hc' o e => up c o (D.f2 c hc').1 e) hT hz8 fun c o c1 c2 c3 c4 e => up c o c1 (keep c o c1 c2 c3 c4 e)

theorem zips_end {z TI TO i1 i2 : Addr} {fr1 fr2 : List Addr} {xs : Nat → Option Value} {S1 : Nat → Heap → Prop} {k : Nat} {a b : Value} {Q : Fin → Shared → Prop} (D : Apt z TI TO i1 i2 fr1 fr2) (W1 : Stp prog w A i1 fr1 xs S1)
    (hz : IsZip s.heap z TI TO .none) (hTI : IsPair s.heap TI (.ref i1) (.ref i2)) (hTO : IsPair s.heap TO a b) (h1 : S1 k s.heap) (hx : xs k = none)
    (hE : ∀ h' e, (∀ c o, c ≠ z → c ≠ TO → c ≠ i1 → c ≠ i2 → s.heap.get? c = some o → h'.get? c = some o) → (∃ o, h'.get? e = some o ∧ o.cls = .type "StopIteration") → E (.ref e) { s with heap := h' }) :
    wpAny (model prog w) A (Builtin.«zip.__next__» ⟨[.ref z], []⟩) Q E s := by
  show wpAny _ _ (field (.ref z) 2 >>= _) _ _ _
  refine wpAny_bind (wpAny_field hz rfl (x := .bool false) rfl ?_)
  show wpAny _ _ (field (.ref z) 3 >>= _) _ _ _
  refine wpAny_bind (wpAny_field hz rfl (x := .ref TI) rfl ?_)
  refine wpAny_bind (wpAny_seqItems hTI rfl ?_)
  show wpAny _ _ (Builtin.SmallTypes.ownedTupleIsFree (.ref z) >>= _) _ _ _
  refine wpAny_bind ?_
  unfold Builtin.SmallTypes.ownedTupleIsFree
  refine wpAny_bind (wpAny_field hz rfl (x := .none) rfl (wpAny_pure ?_))
  simp only [if_true]
  refine wpAny_bind (wpAny_rule ?_)
  refine wpAny_bind (wpAny_field hz rfl (x := .ref TO) rfl ?_)
  refine wpAny_bind (wpAny_setField_rec hz (by simp) fun ha hza sa => ?_)
  replace hza : IsZip ha z TI TO .ellipsis := hza
  refine wpAny_bind ?_
  simp only [List.zipIdx_cons, List.zipIdx_nil, List.forIn_cons, List.forIn_nil]
  refine wpAny_bind (wpAny_bind (wpAny_onRaise ?_))
  show wpAny _ _ (Builtin.SmallTypes.nextOf (.ref i1) >>= _) _ _ _
  have h1a : S1 k ha := W1.frame _ _ _ h1 fun c hc o e => sa.extBut _ _ (D.f1 c hc).1 e
  refine wpAny_bind (W1.stop k _ _ _ h1a hx fun hb e sb he => ?_)
  obtain ⟨oe, hoe, hce⟩ := he
  have hzb : IsZip hb z TI TO .ellipsis := sb _ _ D.i1z.symm hza
  have hez : e ≠ z := fun q => by subst q; rw [hzb] at hoe; cases hoe; simp at hce
  refine wpAny_setField_rec hzb (by simp) fun hc _ sc => hE hc e (fun c o c1 _ c3 _ q => sc.extBut _ _ c1 (sb _ _ c3 (sa.extBut _ _ c1 q))) ⟨oe, sc.extBut _ _ hez hoe, hce⟩

theorem pairs_zip {n : Nat} {z TI TO i1 i2 : Addr} {fr1 fr2 : List Addr} {xs ys : Nat → Option Value} {S1 S2 : Nat → Heap → Prop} (hh : A.handled = none) (D : Apt z TI TO i1 i2 fr1 fr2) (W1 : Stp prog w A.in1 i1 fr1 xs S1) (W2 : Stp prog w A.in1 i2 fr2 ys S2)
    (hi1 : i1 ∈ fr1) (hi2 : i2 ∈ fr2) (hlx : ∀ k, k < n → ∃ x, xs k = some x) (hly : ∀ k, k < n → ∃ y, ys k = some y) (hend : xs n = none) (lv1 : ∀ k h, S1 k h → ∃ o, h.get? i1 = some o) (lv2 : ∀ k h, S2 k h → ∃ o, h.get? i2 = some o) :
    WalksU prog w A z ([z, TI, TO] ++ (fr1 ++ fr2)) [z, TO, i1, i2] n (fun i vals => ∃ x y, xs i = some x ∧ ys i = some y ∧ vals = #[x, y])
      (fun i h => IsZip h z TI TO .none ∧ IsPair h TI (.ref i1) (.ref i2) ∧ (∃ a b, IsPair h TO a b) ∧ S1 i h ∧ S2 i h)
      (fun i T h => IsZip h z TI TO (rawInt T) ∧ IsPair h TI (.ref i1) (.ref i2) ∧ (∃ a b, IsPair h TO a b) ∧ S1 (i + 1) h ∧ S2 (i + 1) h ∧ T ≠ z ∧ T ≠ TO ∧ T ≠ i1 ∧ T ≠ i2) where
  sub := fun c hc => by
    simp only [List.mem_cons, List.not_mem_nil, or_false, List.mem_append] at hc ⊢
    rcases hc with rfl | rfl | rfl | rfl
    · simp
    · simp
    · exact .inr (.inl hi1)
    · exact .inr (.inr hi2)
  frame := fun i h h' hst hk => by
    obtain ⟨hz, hTI, ⟨a, b, hTO⟩, h1, h2⟩ := hst
    exact ⟨hk z (by simp) _ hz, hk TI (by simp) _ hTI, ⟨a, b, hk TO (by simp) _ hTO⟩, W1.frame _ _ _ h1 fun c hc => hk c (by simp [hc]), W2.frame _ _ _ h2 fun c hc => hk c (by simp [hc])⟩
  item := fun i s Q E hi hst hQ => by
    obtain ⟨hz, hTI, ⟨a, b, hTO⟩, h1, h2⟩ := hst
    obtain ⟨x, hx⟩ := hlx i hi
    obtain ⟨y, hy⟩ := hly i hi
    have hT : s.TypeIs (.ref z) "zip" := ⟨_, hz, rfl⟩
    have lt : ∀ {c o}, s.heap.get? c = some o → s.heap.objs.size ≠ c := fun e => Nat.ne_of_gt (Heap.lt_size e)
    unfold pyNext
    refine wpAny_bind (wpAny_attempt (wpAny_callSpecial?_slot (name := Str.ofString "__next__") hT F.slot_zip_next
      (wpAny_call_entry F.slot_zip_next hT F.entry_zip_next (zips_item D W1 W2 hz hTI hTO h1 h2 hx hy fun h' a1 a2 a3 a4 a5 a6 hk => wpAny_pure ?_) (F.args_zip_next_1 _))))
    refine hQ s.heap.objs.size #[x, y] h' s.toks ⟨x, y, hx, hy, rfl⟩ ⟨_, a5, rfl, _, rfl⟩
      ⟨a1, hk _ _ D.TIz D.TITO D.TIi1 D.TIi2 hTI, ⟨_, _, a2⟩, a3, a4, lt hz, lt hTO, ?_, ?_⟩ fun c o hc e => hk c o (fun x => hc (by simp [x])) (fun x => hc (by simp [x])) (fun x => hc (by simp [x])) (fun x => hc (by simp [x])) e
    · obtain ⟨_, e⟩ := lv1 _ _ h1; exact lt e
    · obtain ⟨_, e⟩ := lv2 _ _ h2; exact lt e
  go := fun elts k pos i T s Q E hm hQ => by
    obtain ⟨hz, hTI, ⟨a, b, hTO⟩, h1, h2, _⟩ := hm
    refine wpAny_letOwnedTupleGo_zip hz fun h' hz' hs' => hQ h' ⟨hz', hs'.extBut _ _ D.TIz hTI, ⟨a, b, hs'.extBut _ _ D.TOz hTO⟩, W1.frame _ _ _ h1 fun c hc o e => hs'.extBut _ _ (D.f1 c hc).1 e,
      W2.frame _ _ _ h2 fun c hc o e => hs'.extBut _ _ (D.f2 c hc).1 e⟩ fun c o hc e => hs'.extBut _ _ (fun x => hc (by simp [x])) e
  apart := fun i T h hm hT => by
    obtain ⟨_, _, _, _, _, t1, t2, t3, t4⟩ := hm
    simp only [List.mem_cons, List.not_mem_nil, or_false] at hT
    rcases hT with rfl | rfl | rfl | rfl
    · exact t1 rfl
    · exact t2 rfl
    · exact t3 rfl
    · exact t4 rfl
  done := fun s Q E hst hQ => by
    obtain ⟨hz, hTI, ⟨a, b, hTO⟩, h1, h2⟩ := hst
    have hT : s.TypeIs (.ref z) "zip" := ⟨_, hz, rfl⟩
    unfold pyNext
    refine wpAny_bind (wpAny_attempt (wpAny_callSpecial?_slot (name := Str.ofString "__next__") hT F.slot_zip_next
      (wpAny_call_entry F.slot_zip_next hT F.entry_zip_next (zips_end D W1 hz hTI hTO h1 hend fun h' e hk he => ?_) (F.args_zip_next_1 _))))
    obtain ⟨o, ho, hc⟩ := he
    refine wpAny_bind (wpAny_isInstance (T := "StopIteration") (b := true) ⟨o, ho, hc⟩ isSubtype_stop ?_)
    exact wpAny_pure (hQ h' _ fun c o hc e => hk c o (fun x => hc (by simp [x])) (fun x => hc (by simp [x])) (fun x => hc (by simp [x])) (fun x => hc (by simp [x])) e)
  self := fun i s Q E hst hQ => wpAny_pyIter_zip hst.1 hQ

abbrev ztH1 (h : Heap) (l1 : Addr) : Heap := h.push { cls := .type "tuple_iterator", data := .fields #[.ref l1, .int 0 0] }
abbrev ztH2 (h : Heap) (l1 l2 : Addr) : Heap := (ztH1 h l1).push { cls := .type "tuple_iterator", data := .fields #[.ref l2, .int 0 0] }
abbrev ztH3 (h : Heap) (l1 l2 : Addr) : Heap := (ztH2 h l1 l2).push { cls := .type "tuple", data := .seq #[.ref h.objs.size, .ref (ztH1 h l1).objs.size] }
abbrev ztH4 (h : Heap) (l1 l2 : Addr) : Heap := (ztH3 h l1 l2).push { cls := .type "tuple", data := .seq #[.none, .none] }
abbrev ztH5 (h : Heap) (l1 l2 : Addr) : Heap := (ztH4 h l1 l2).push { cls := .type "zip", data := .fields #[.none, .bool false, .bool false, .ref (ztH2 h l1 l2).objs.size, .ref (ztH3 h l1 l2).objs.size] }

theorem zt_new (l1 l2 : Addr) (xs ys : Array Value) :
    Meets (Builtin.«zip.__new__» ⟨[.type "zip", .ref l1, .ref l2], []⟩) (fun _ R s => s.heap.IsTuple l1 xs ∧ s.heap.IsTuple l2 ys ∧
      R (.ok (.ret (.ref (ztH4 s.heap l1 l2).objs.size))) { s with heap := ztH5 s.heap l1 l2 }) :=
  .of_wp fun prog w A R s h => by
    obtain ⟨hp, g, d, tk, os⟩ := s; obtain ⟨hl1, hl2, h⟩ := h
    have hsub := sub_zip
    have hL1 : Heap.IsTuple (Shared.heap ⟨hp, g, d, tk, os⟩) l1 xs := hl1
    have hL2 : Heap.IsTuple (Shared.heap ⟨hp.push { cls := .type "tuple_iterator", data := .fields #[.ref l1, .int 0 0] }, g, d, tk, os⟩) l2 ys := Heap.IsTuple.push hl2 _
    wp_walk using wpAny_pyIter_tuple hL1, wpAny_pyIter_tuple hL2
    exact ⟨_, rfl, h⟩

theorem call_zt {l1 l2 : Addr} {xs ys : Array Value} {Q : Value → Shared → Prop} (hl1 : s.heap.IsTuple l1 xs) (hl2 : s.heap.IsTuple l2 ys)
    (h : ∀ h', IsZip h' (s.heap.objs.size + 4) (s.heap.objs.size + 2) (s.heap.objs.size + 3) .none → IsPair h' (s.heap.objs.size + 2) (.ref s.heap.objs.size) (.ref (s.heap.objs.size + 1)) →
      IsPair h' (s.heap.objs.size + 3) .none .none → h'.IsTupleIter s.heap.objs.size l1 0 → h'.IsTupleIter (s.heap.objs.size + 1) l2 0 → h'.objs.size = s.heap.objs.size + 5 →
      (∀ c o, s.heap.get? c = some o → h'.get? c = some o) → Q (.ref (s.heap.objs.size + 4)) { s with heap := h' }) :
    wpAny (model prog w) A (call (.type "zip") [.ref l1, .ref l2]) Q E s := by
  refine callType_new F.called_zip (by decide) (F.typeCall_zip_2 _ _) (F.newCall_zip_2 _ _) (fun obj => F.args_object_init_3 obj _ _) F.entry_zip_new
    (zt_new l1 l2 xs ys) ⟨hl1, hl2, ?_⟩
  have z1 : (ztH1 s.heap l1).objs.size = s.heap.objs.size + 1 := Heap.size_push ..
  have z2 : (ztH2 s.heap l1 l2).objs.size = s.heap.objs.size + 2 := by rw [Heap.size_push, z1]
  have z3 : (ztH3 s.heap l1 l2).objs.size = s.heap.objs.size + 3 := by rw [Heap.size_push, z2]
  have z4 : (ztH4 s.heap l1 l2).objs.size = s.heap.objs.size + 4 := by rw [Heap.size_push, z3]
  have z5 : (ztH5 s.heap l1 l2).objs.size = s.heap.objs.size + 5 := by rw [Heap.size_push, z4]
  have g5 : (ztH5 s.heap l1 l2).get? (ztH4 s.heap l1 l2).objs.size = some _ := Heap.get?_push_size _ rfl
  have g4 : (ztH5 s.heap l1 l2).get? (ztH3 s.heap l1 l2).objs.size = some _ := Heap.get?_push_of_some _ (Heap.get?_push_size _ rfl)
  have g3 : (ztH5 s.heap l1 l2).get? (ztH2 s.heap l1 l2).objs.size = some _ := Heap.get?_push_of_some _ (Heap.get?_push_of_some _ (Heap.get?_push_size _ rfl))
  have g2 : (ztH5 s.heap l1 l2).get? (ztH1 s.heap l1).objs.size = some _ := Heap.get?_push_of_some _ (Heap.get?_push_of_some _ (Heap.get?_push_of_some _ (Heap.get?_push_size _ rfl)))
  have g1 : (ztH5 s.heap l1 l2).get? s.heap.objs.size = some _ := Heap.get?_push_of_some _ (Heap.get?_push_of_some _ (Heap.get?_push_of_some _ (Heap.get?_push_of_some _ (Heap.get?_push_size _ rfl))))
  show _ ∧ _
  rw [z2, z3, z4] at g5
  rw [z1, z2] at g3
  rw [z3] at g4
  rw [z1] at g2
  rw [z4]
  exact ⟨⟨_, g5, rfl⟩, h _ g5 g3 g4 ⟨_, g1, rfl, rfl⟩ ⟨_, g2, rfl, rfl⟩ z5 fun c o x =>
    Heap.get?_push_of_some _ (Heap.get?_push_of_some _ (Heap.get?_push_of_some _ (Heap.get?_push_of_some _ (Heap.get?_push_of_some _ x))))⟩
end

section
variable {prog : Program} {w : World} {A : Around} {E : Value → Shared → Prop} {s : Shared} {h₀ : Heap} {L : Addr} {m : Str → Option Value} {env : Env}

def PEnd (h₀ : Heap) (L : Addr) (m : Str → Option Value) (s₁ : Shared) (its : Led) (bad : List Addr) (C : Addr) (oC : Obj) (D : Addr) (ys : List Value) (rest : Value → Led → Prop) (y : Value) (s₂ : Shared) : Prop :=
  ∃ h' tk nw', s₂ = { s₁ with heap := h', toks := tk } ∧ Fr h₀ L h' m ∧ News h₀ L h' (its ++ (C, oC) :: (D, lst ys) :: nw') ∧ (∀ p ∈ nw', p.1 ∉ bad ∧ p.1 ≠ C ∧ p.1 ≠ D) ∧ rest y nw'
noncomputable def PRest (prog : Program) (w : World) (A : Around) (h₀ : Heap) (L : Addr) (m : Str → Option Value) (env : Env) (elt : Expr) (a b : Str) (scope : Scope) (cl : List (Str × Addr)) (s : Shared) (bad : List Addr) (Fin : List Value → Led → Prop) : List (Value × Value) → List Value → Led → Prop
  | [], ys, nw => Fin ys nw
  | p :: r, ys, nw => ∀ its C oC D m₂ h tk (E' : Value → Shared → Prop), NsObj oC m₂ → m₂ a = some p.1 → m₂ b = some p.2 → Fr h₀ L h m → News h₀ L h (its ++ (C, oC) :: (D, lst ys) :: nw) → (∀ p ∈ nw, p.1 ∉ bad ∧ p.1 ≠ C ∧ p.1 ≠ D) →
      wpAny (model prog w) A (eval elt (compEnvC scope cl C env)) (PEnd h₀ L m { s with heap := h, toks := tk } its bad C oC D ys (fun y nw' => PRest prog w A h₀ L m env elt a b scope cl s bad Fin r (ys ++ [y]) nw')) E' { s with heap := h, toks := tk }

theorem pairs_block {elt iter : Expr} {a b : Str} {pa pb tp : Pos} {kk : Nat} {scope : Scope} {cl : List (Str × Addr)} {pos : Pos} {s₂ : Shared} {I : Addr} {fp wr : List Addr} {Md : Nat → Value → Heap → Prop} {St : Nat → Heap → Prop} {xs : List (Value × Value)} {news : Led}
    {Fin : List Value → Led → Prop} {RR : Value → Addr → Result → Shared → Prop}
    (W : KTurns prog w A (.Tuple [.Name a pa, .Name b pb] kk tp) I fp wr xs.length (fun i v h => ∃ T x y, v = .ref T ∧ xs[i]? = some (x, y) ∧ h.IsTuple T #[x, y]) Md St)
    (hh : A.handled = none) (hsz : xs.length ≤ sizeLine) (hfp : ∀ b ∈ fp, b < s₂.heap.objs.size) (hLf : L ∉ fp) (hwr : ∀ b ∈ wr, h₀.get? b = none) (hst : St 0 s₂.heap)
    (hself : ∀ (s : Shared) (Q : Value → Shared → Prop) (E : Value → Shared → Prop), St 0 s.heap → Q (.ref I) s → wpAny (model prog w) A (pyIter (.ref I)) Q E s)
    (hcell : ∀ y ∈ scope.names, y.2 ≠ .cell) (hkind : scope.kind = .function) (hxa : scope.names.lookup a = some .local) (hxb : scope.names.lookup b = some .local) (hab : ¬ a = b)
    (F : Fr h₀ L s₂.heap m) (N : News h₀ L s₂.heap news) (off : ∀ p ∈ news, p.1 ∉ wr)
    (R : PRest prog w A h₀ L m env elt a b scope cl s₂ wr Fin xs [] news)
    (hRR : ∀ D C h tk m' ys news', Fr h₀ L h m → News h₀ L h ((D, lst ys) :: news') → (∀ p ∈ news', p.1 ≠ D) → h.Ns C m' → h₀.get? C = none → h₀.get? D = none → C ≠ L → D ≠ L → C ≠ D → (∀ p ∈ news', p.1 ≠ C) → Fin ys news' → RR (.ref D) C (.ok .next) { s₂ with heap := h, toks := tk }) :
    wpAny (model prog w) A (newList []) (fun acc s₃ => wpAny (model prog w) A (newFunctionEnv scope env.globals cl [] env.qual none .none (some env)) (fun cenv s₄ =>
      codeAny (model prog w) A (.compStart (.ListComp elt [⟨.Tuple [.Name a pa, .Name b pb] kk tp, iter, [], 0⟩] scope pos) 0 (.ref I) acc { cenv with scope := relabel scope env }) (RR acc cenv.locals) s₄) E s₃) E s₂ := by
  refine wpAny_newObj_type (wpAny_newFunctionEnv hcell (by intro y hy; simp at hy) (fun h₁ hns₁ hsb₁ => ?_) hkind)
  dsimp only at hns₁ hsb₁ ⊢
  generalize hH2 : s₂.heap.push { cls := .type "list", dict := none, data := .seq ([] : List Value).toArray } = H2 at hns₁ hsb₁ ⊢
  have hC : H2.objs.size = s₂.heap.objs.size + 1 := by rw [← hH2, Heap.size_push]
  have hDC : s₂.heap.objs.size ≠ H2.objs.size := by rw [hC]; exact Nat.ne_of_lt (Nat.lt_succ_self _)
  have below : ∀ b, b < s₂.heap.objs.size → b ≠ H2.objs.size ∧ b ≠ s₂.heap.objs.size := fun b hb => ⟨by rw [hC]; exact Nat.ne_of_lt (Nat.lt_succ_of_lt hb), Nat.ne_of_lt hb⟩
  have old : ∀ b o, s₂.heap.get? b = some o → h₁.get? b = some o := fun b o e => hsb₁.extBut b o (below b (Heap.lt_size e)).1 (Heap.get?_push_of_some _ (hH2 ▸ Heap.get?_push_of_some _ e))
  have hacc : h₁.get? s₂.heap.objs.size = some (lst []) := hsb₁.extBut _ _ hDC (Heap.get?_push_of_some _ (hH2 ▸ Heap.get?_push_size _ rfl))
  have hst₁ : St 0 h₁ := W.frame _ _ _ hst fun b _ o e => old b o e
  have fresh₀ : ∀ a, s₂.heap.objs.size ≤ a → h₀.get? a = none := fun a ha => ktu_new F ha
  have hD₀ : h₀.get? s₂.heap.objs.size = none := fresh₀ _ (Nat.le_refl _)
  have hC₀ : h₀.get? H2.objs.size = none := fresh₀ _ (by rw [hC]; exact Nat.le_succ _)
  have hLlt : L < s₂.heap.objs.size := F.ns.lt
  have hDL : s₂.heap.objs.size ≠ L := Ne.symm (below L hLlt).2
  have hCL : H2.objs.size ≠ L := Ne.symm (below L hLlt).1
  have hCf : H2.objs.size ∉ fp := fun hm => (below _ (hfp _ hm)).1 rfl
  have hDf : s₂.heap.objs.size ∉ fp := fun hm => (below _ (hfp _ hm)).2 rfl
  have hLw : L ∉ wr := fun h => hLf (W.sub _ h)
  have old₀ : ∀ b o, h₀.get? b = some o → b ∉ wr := fun b o e hb => by rw [hwr b hb] at e; cases e
  have loop : ∀ s₃ : Shared, s₃ = { s₂ with heap := h₁, toks := s₂.toks + ([] : List (Str × Value)).length } →
      codeAny (model prog w) A (.compLoop (.ListComp elt [⟨.Tuple [.Name a pa, .Name b pb] kk tp, iter, [], 0⟩] scope pos) 0 (.ref I) (.ref s₂.heap.objs.size) (compEnvC scope cl H2.objs.size env))
        (RR (.ref s₂.heap.objs.size) H2.objs.size) s₃ := by
    rintro s₃ rfl
    refine kcp_loop
      (fun k s' => ∃ h' tk i ys m' news', s' = { s₂ with heap := h', toks := tk } ∧ i ≤ xs.length ∧ k = xs.length + 1 - i ∧ ys.length = i ∧ St i h' ∧ Fr h₀ L h' m ∧ h'.Ns H2.objs.size m' ∧
        News h₀ L h' ((s₂.heap.objs.size, lst ys) :: news') ∧ (∀ p ∈ news', p.1 ∉ wr ∧ p.1 ≠ H2.objs.size ∧ p.1 ≠ s₂.heap.objs.size) ∧ PRest prog w A h₀ L m env elt a b scope cl s₂ wr Fin (xs.drop i) ys news') ?_ (xs.length + 1)
      ⟨h₁, _, 0, [], _, news, rfl, Nat.zero_le _, rfl, rfl, hst₁, F.keeps old, hns₁, fun p hp => ?_, fun p hp => ⟨off p hp, (below _ (Heap.lt_size (N p hp).1)).1, (below _ (Heap.lt_size (N p hp).1)).2⟩, by rw [List.drop_zero]; exact R⟩
    · rintro k s' ⟨h', tk, i, ys, m', news', rfl, hi, rfl, hyl, hst', F', hn', N', off', R'⟩
      by_cases hlt : i < xs.length
      · refine W.item i _ _ _ hlt hst' fun v h₂ tk₂ hMd hk₂ => ?_
        refine W.go i v _ _ _ hMd fun h₃ hP hst₃ hk₃ => ?_
        obtain ⟨T, x, y, rfl, hxy, hT⟩ := hP
        have hCw : H2.objs.size ∉ wr := fun h => hCf (W.sub _ h)
        have hDw : s₂.heap.objs.size ∉ wr := fun h => hDf (W.sub _ h)
        have up₃ : ∀ c o, c ∉ wr → h'.get? c = some o → h₃.get? c = some o := fun c o hc e => hk₃ c o hc (hk₂ c o hc e)
        refine kcp_assign (env := compEnvC scope cl H2.objs.size env) hh hT (lookup_relabel_local hxa) (lookup_relabel_local hxb) (by simp [compEnvC, relabel, hkind]) (hn'.at' fun o e => up₃ _ o hCw e) fun h₄ tk₄ hn₄ hs₄ => ?_
        have up : ∀ c o, c ∉ wr → c ≠ H2.objs.size → h'.get? c = some o → h₄.get? c = some o := fun c o h1 h2 e => hs₄ c o h2 (up₃ c o h1 e)
        have hst₄ : St (i + 1) h₄ := W.frame _ _ _ hst₃ fun b hb o e => hs₄ b o (fun q => hCf (by have q' : b = H2.objs.size := q; rw [← q']; exact hb)) e
        obtain ⟨oC, heC, hoC⟩ := ns_obj hn₄
        have F₄ : Fr h₀ L h₄ m := ⟨F'.ns.at' fun o e => up _ o hLw (Ne.symm hCL) e, fun c o e => up c o (old₀ c o e) (fun q => by rw [q, hC₀] at e; cases e) (F'.keep c o e), F'.above⟩
        have hdrop : xs.drop i = (x, y) :: xs.drop (i + 1) := by
          rw [List.drop_eq_getElem_cons hlt]
          congr 1
          exact Option.some.inj ((List.getElem?_eq_getElem hlt).symm.trans hxy)
        have R'' : PRest prog w A h₀ L m env elt a b scope cl s₂ wr Fin ((x, y) :: xs.drop (i + 1)) ys news' := by rw [← hdrop]; exact R'
        have Nown : News h₀ L h₄ (PyProof.Rows.ownOf h₀ fp h₄) := news_ownOf hLf
        have N₄ : News h₀ L h₄ (PyProof.Rows.ownOf h₀ fp h₄ ++ (H2.objs.size, oC) :: (s₂.heap.objs.size, lst ys) :: news') := by
          refine Nown.append fun q hq => ?_
          rcases List.mem_cons.mp hq with rfl | hq
          · exact ⟨heC, hCL, hC₀⟩
          · have z := N' q hq
            refine ⟨up _ _ ?_ ?_ z.1, z.2⟩
            · rcases List.mem_cons.mp hq with rfl | hq
              · exact hDw
              · exact (off' q hq).1
            · rcases List.mem_cons.mp hq with rfl | hq
              · exact hDC
              · exact (off' q hq).2.1
        refine wpAny_mono (R'' _ H2.objs.size oC s₂.heap.objs.size _ h₄ _ _ hoC (by simp [hab]) (by simp) F₄ N₄ off') (fun y' s₅ h₅ => ?_) fun _ _ e => e
        obtain ⟨h₅, tk₅, news₅, rfl, F₅, N₅, off₅, R₅⟩ := h₅
        have zC := (N₅ (H2.objs.size, oC) (List.mem_append.mpr (.inr (.head _)))).1
        have zD := (N₅ (s₂.heap.objs.size, lst ys) (List.mem_append.mpr (.inr (.tail _ (.head _))))).1
        have N₅' : News h₀ L h₅ news₅ := fun q hq => N₅ q (List.mem_append.mpr (.inr (.tail _ (.tail _ hq))))
        have hst₅ : St (i + 1) h₅ := W.frame _ _ _ hst₄ fun b hb o e => by
          cases hn : h₀.get? b with
          | some o₀ =>
            have : o₀ = o := by have q := F₄.keep b o₀ hn; rw [e] at q; exact (Option.some.inj q).symm
            exact this ▸ F₅.keep b o₀ hn
          | none => exact (N₅ _ (List.mem_append_left _ (mem_ownOf hb hn e))).1
        refine append_at (hsz := by show ys.toArray.size ≤ sizeLine; rw [List.size_toArray, hyl]; exact Nat.le_trans hi hsz) zD fun h₆ hs₆ hD₆ => ?_
        refine ⟨xs.length + 1 - (i + 1), by omega, h₆, tk₅, i + 1, ys ++ [y'], _, news₅, rfl, hlt, rfl, by rw [List.length_append, List.length_singleton, hyl], W.frame _ _ _ hst₅ fun b hb o e => hs₆.extBut b o (fun q => hDf (q ▸ hb)) e, F₅.change hs₆ hDL hD₀,
          (hoC.ns zC).sameBut hs₆ (Ne.symm hDC), fun q hq => ?_, off₅, R₅⟩
        rcases List.mem_cons.mp hq with rfl | hq
        · exact ⟨hD₆.trans (congrArg some (lst_snoc ys y')), hDL, hD₀⟩
        · exact ⟨hs₆.extBut _ _ (off₅ q hq).2.2 (N₅' q hq).1, (N₅' q hq).2⟩
      · have hin : i = xs.length := Nat.le_antisymm hi (Nat.not_lt.mp hlt)
        rw [hin, List.drop_length] at R'
        refine W.done _ _ _ (hin ▸ hst') fun h₂ tk₂ hk₂ => ?_
        have hDw : s₂.heap.objs.size ∉ wr := fun h => hDf (W.sub _ h)
        have hCw : H2.objs.size ∉ wr := fun h => hCf (W.sub _ h)
        refine hRR _ _ h₂ tk₂ _ ys news' ⟨F'.ns.at' fun o e => hk₂ _ o hLw e, fun c o e => hk₂ c o (old₀ c o e) (F'.keep c o e), F'.above⟩ (fun p hp => ?_) (fun p hp => (off' p hp).2.2) (hn'.at' fun o e => hk₂ _ o hCw e) hC₀ hD₀ hCL hDL (Ne.symm hDC) (fun p hp => (off' p hp).2.1) R'
        refine ⟨hk₂ _ _ ?_ (N' p hp).1, (N' p hp).2⟩
        rcases List.mem_cons.mp hp with rfl | hp
        · exact hDw
        · exact (off' p hp).1
    · rcases List.mem_cons.mp hp with rfl | hp
      · exact ⟨hacc, hDL, hD₀⟩
      · exact ⟨old _ _ (N p hp).1, (N p hp).2⟩
  exact codeAny_compStart_list (loop _ rfl) (hself _ _ _ hst₁ (loop _ rfl))

def SrcZ (prog : Program) (w : World) (A : Around) (h₀ : Heap) (L : Addr) (m : Str → Option Value) (env : Env) (elt : Expr) (a b : Str) (scope : Scope) (cl : List (Str × Addr)) (Fin : Shared → List Value → Led → Prop) (xv : Value) (s₁ : Shared) : Prop :=
  ∃ (I : Addr) (fp wr : List Addr) (Md : Nat → Value → Heap → Prop) (St : Nat → Heap → Prop) (xs : List (Value × Value)) (news : Led), xv = .ref I ∧ A.handled = none ∧
    (∀ pa pb kk tp, KTurns prog w A (.Tuple [.Name a pa, .Name b pb] kk tp) I fp wr xs.length (fun i v h => ∃ T x y, v = .ref T ∧ xs[i]? = some (x, y) ∧ h.IsTuple T #[x, y]) Md St) ∧
    xs.length ≤ sizeLine ∧ (∀ b ∈ fp, b < s₁.heap.objs.size) ∧ L ∉ fp ∧ (∀ b ∈ wr, h₀.get? b = none) ∧ St 0 s₁.heap ∧
    (∀ (s : Shared) (Q : Value → Shared → Prop) (E : Value → Shared → Prop), St 0 s.heap → Q (.ref I) s → wpAny (model prog w) A (pyIter (.ref I)) Q E s) ∧
    Fr h₀ L s₁.heap m ∧ News h₀ L s₁.heap news ∧ (∀ p ∈ news, p.1 ∉ wr) ∧ PRest prog w A h₀ L m env elt a b scope cl s₁ wr (Fin s₁) xs [] news

theorem ListComp_Z {elt iter : Expr} {a b : Str} {pa pb tp : Pos} {kk : Nat} {scope : Scope} {cl : List (Str × Addr)} {pos : Pos} {Q : Value → Shared → Prop} (F₀ : Fr h₀ L s.heap m)
    (hclos : closureFor scope env = pure cl) (hcell : ∀ y ∈ scope.names, y.2 ≠ .cell) (hkind : scope.kind = .function)
    (hnames : ∀ y ∈ scope.names, y.2 = .local → scope.names.lookup y.1 = some .local) (hxa : scope.names.lookup a = some .local) (hxb : scope.names.lookup b = some .local) (hab : ¬ a = b)
    (h : wpAny (model prog w) A (eval iter env) (SrcZ prog w A h₀ L m env elt a b scope cl (fun s₂ => FinE h₀ L m s₂ Q)) E s)
    (hs : ∀ x, foldedSetIterable iter env x = pure x := by intro _; rfl) :
    wpAny (model prog w) A (eval (.ListComp elt [⟨.Tuple [.Name a pa, .Name b pb] kk tp, iter, [], 0⟩] scope pos) env) Q E s := by
  rw [eval_ListComp]
  refine wpAny_comprehension_free (use := none) rfl hs hclos hkind hnames (wpAny_mono h (fun xv s₁ h₁ => ?_) fun _ _ e => e)
  obtain ⟨I, fp, wr, Md, St, xs, news, rfl, hh, W, hsz, hfp, hLf, hwr, hst, hself, F, N, off, R⟩ := h₁
  refine hself _ _ _ hst ?_
  refine pairs_block (W _ _ _ _) hh hsz hfp hLf hwr hst hself hcell hkind hxa hxb hab F N off R ?_
  intro D C h tk m' ys news' F' N' o1 hn hC₀ hD₀ hCL hDL hCD offC fin
  have off1 : ∀ l : Led, (∀ p ∈ l, p.1 ≠ D) → Off1 D l := by
    intro l
    induction l with
    | nil => exact fun _ => trivial
    | cons p l ih => exact fun h => ⟨h p (.head _), ih fun q hq => h q (.tail _ hq)⟩
  refine ⟨m', hn, fun h'' hs'' => fin D h'' tk (F'.change hs'' hCL hC₀) (fun p hp => ?_) (off1 _ o1)⟩
  refine ⟨hs''.extBut _ _ ?_ (N' p hp).1, (N' p hp).2⟩
  rcases List.mem_cons.mp hp with rfl | hp
  · exact Ne.symm hCD
  · exact offC p hp

theorem kt_weak {target : Expr} {I : Addr} {fp wr : List Addr} {n : Nat} {P P' Md : Nat → Value → Heap → Prop} {St : Nat → Heap → Prop} (W : KTurns prog w A target I fp wr n P Md St) (h : ∀ i v h, P i v h → P' i v h) : KTurns prog w A target I fp wr n P' Md St where
  sub := W.sub
  frame := W.frame
  item := W.item
  done := W.done
  go := fun i v s Q E hm hQ => W.go i v s Q E hm fun h' hP st hk => hQ h' (h _ _ _ hP) st hk
theorem zt_src {elt : Expr} {a b : Str} {scope : Scope} {cl : List (Str × Addr)} {Fin : Shared → List Value → Led → Prop} {l1 l2 : Addr} {us vs : List Value} {n1 n2 : Nat} {news : Led}
    (hh : A.handled = none) (F : Fr h₀ L s.heap m) (N : News h₀ L s.heap news) (hm1 : (l1, ({ cls := .type "tuple", data := .seq us.toArray n1 } : Obj)) ∈ news) (hm2 : (l2, ({ cls := .type "tuple", data := .seq vs.toArray n2 } : Obj)) ∈ news)
    (hlen : us.length = vs.length) (hsz : us.length ≤ sizeLine)
    (rest : ∀ g wr, PRest prog w A h₀ L m env elt a b scope cl { s with heap := g } wr (Fin { s with heap := g }) (us.zip vs) [] news) :
    wpAny (model prog w) A (call (.type "zip") [.ref l1, .ref l2]) (SrcZ prog w A h₀ L m env elt a b scope cl Fin) E s := by
  have hax1 := N _ hm1
  have hax2 := N _ hm2
  have hl1 : s.heap.IsTuple l1 us.toArray := ⟨_, hax1.1, rfl, n1, rfl⟩
  have hl2 : s.heap.IsTuple l2 vs.toArray := ⟨_, hax2.1, rfl, n2, rfl⟩
  have hlt1 : @LT.lt Nat _ l1 s.heap.objs.size := Heap.lt_size hax1.1
  have hlt2 : @LT.lt Nat _ l2 s.heap.objs.size := Heap.lt_size hax2.1
  have hLs : @LT.lt Nat _ L s.heap.objs.size := F.ns.lt
  refine call_zt hl1 hl2 fun h' hz hTI hTO hi1 hi2 hsz' hk => ?_
  have ne1 : l1 ≠ s.heap.objs.size := Nat.ne_of_lt hlt1
  have ne2 : l2 ≠ s.heap.objs.size + 1 := neN (by omega)
  have D : Apt (s.heap.objs.size + 4) (s.heap.objs.size + 2) (s.heap.objs.size + 3) s.heap.objs.size (s.heap.objs.size + 1) [s.heap.objs.size, l1] [s.heap.objs.size + 1, l2] := by
    constructor
    case f1 =>
      intro b hb
      rcases List.mem_cons.mp hb with rfl | hb
      · exact ⟨neN (by omega), neN (by omega), neN (by omega)⟩
      · rw [List.mem_singleton.mp hb]; exact ⟨neN (by omega), neN (by omega), neN (by omega)⟩
    case f2 =>
      intro b hb
      rcases List.mem_cons.mp hb with rfl | hb
      · exact ⟨neN (by omega), neN (by omega), neN (by omega)⟩
      · rw [List.mem_singleton.mp hb]; exact ⟨neN (by omega), neN (by omega), neN (by omega)⟩
    all_goals exact neN (by omega)
  have W1 : Stp prog w A.in1 s.heap.objs.size [s.heap.objs.size, l1] (fun k => us.toArray[k]?) _ := stp_tup (A := A.in1) hh _ _ ne1 us.toArray
  have W2 : Stp prog w A.in1 (s.heap.objs.size + 1) [s.heap.objs.size + 1, l2] (fun k => vs.toArray[k]?) _ := stp_tup (A := A.in1) hh _ _ ne2 vs.toArray
  have zl : (us.zip vs).length = us.length := by rw [List.length_zip]; omega
  have PW := pairs_zip (n := (us.zip vs).length) hh D W1 W2 (by simp) (by simp) (fun k hk => ⟨us[k]'(by omega), by simp⟩) (fun k hk => ⟨vs[k]'(by omega), by simp⟩) (by simp [zl]) (fun k h st => by obtain ⟨o, e, _⟩ := st.1; exact ⟨o, e⟩) (fun k h st => by obtain ⟨o, e, _⟩ := st.1; exact ⟨o, e⟩)
  have KT := fun pa pb kk tp => KTurns.ofWalksU (elts := [.Name a pa, .Name b pb]) (k := kk) (pos := tp) PW
  have KT' := fun pa pb kk tp => kt_weak (KT pa pb kk tp) (P' := fun i v h => ∃ T x y, v = .ref T ∧ (us.zip vs)[i]? = some (x, y) ∧ h.IsTuple T #[x, y]) (by
      rintro i v h ⟨T, vals, rfl, ⟨x, y, hx, hy, rfl⟩, hT⟩
      refine ⟨T, x, y, rfl, ?_, hT⟩
      simp only [List.getElem?_toArray] at hx hy
      rw [List.getElem?_zip_eq_some]
      exact ⟨hx, hy⟩)
  refine ⟨s.heap.objs.size + 4, _, _, _, _, us.zip vs, news, rfl, hh, KT', by omega, ?_, ?_, ?_, ⟨hz, hTI, ⟨_, _, hTO⟩, ⟨hi1, hl1.at fun o e => hk l1 o e⟩, ⟨hi2, hl2.at fun o e => hk l2 o e⟩⟩, fun s Q E st q => PW.self 0 s Q E st q, F.keeps hk, N.grown hk, ?_, rest _ _⟩
  · intro b hb
    show b < h'.objs.size
    rw [hsz']
    simp only [List.mem_append, List.mem_cons, List.not_mem_nil, or_false] at hb
    refine ltN ?_
    rcases hb with (rfl | rfl | rfl) | (rfl | rfl) | (rfl | rfl) <;> omega
  · intro hb
    simp only [List.mem_append, List.mem_cons, List.not_mem_nil, or_false] at hb
    have n1 := hax1.2.1
    have n2 := hax2.2.1
    rcases hb with (e | e | e) | (e | e) | (e | e)
    · rw [e] at hLs; omega
    · rw [e] at hLs; omega
    · rw [e] at hLs; omega
    · rw [e] at hLs; omega
    · exact n1 e.symm
    · rw [e] at hLs; omega
    · exact n2 e.symm
  · intro b hb
    simp only [List.mem_cons, List.not_mem_nil, or_false] at hb
    rcases hb with rfl | rfl | rfl | rfl <;> first | exact ktu_new F (Nat.le_refl _) | exact ktu_new F (Nat.le_add_right _ _)
  · intro p hp hb
    have hlp : @LT.lt Nat _ p.1 s.heap.objs.size := Heap.lt_size (N p hp).1
    simp only [List.mem_cons, List.not_mem_nil, or_false] at hb
    rcases hb with e | e | e | e <;> (rw [e] at hlp; omega)
end
end Mine
end

section
open PySem PySem.W PyProof.Rows PySem.Calls PySem.Spec PyProof.Rows.LCg
namespace Mine

section
variable {prog : Program} {w : World} {A : Around} {E : Value → Shared → Prop} {s : Shared} {env : Env} {h₀ : Heap} {target : Expr} {body : List Stmt} {Q : Flow → Shared → Prop}
theorem zipItems_eq : ∀ (xs ys : List Value), zipItems xs ys = (xs.zip ys).map fun p => Itm.pair (fun _ => p.1) p.2
  | [], _ => by simp [zipItems]
  | _ :: _, [] => by simp [zipItems]
  | x :: r, y :: q => by simp [zipItems, zipItems_eq r q]
theorem zip_ind {ws : List (Addr × String)} {keep : List (Addr × Obj)} (Inv : List (Value × Value) → (Str → Option Value) → Led → Prop)
    (done : ∀ m news h tk, Inv [] m news → Fr h₀ env.locals h m → News h₀ env.locals h news → Q .next { s with heap := h, toks := tk })
    (step : ∀ p r m news T h tk, Inv (p :: r) m news → IsTup h T #[p.1, p.2] → Fr h₀ env.locals h m → AllObj ws (fun its => News h₀ env.locals h (its ++ news) →
      wpAny (model prog w) A (assign target env (.ref T)) (fun _ s₂ => wpAny (model prog w) A (execs body env) (UnrPostW h₀ env.locals { s with heap := h, toks := tk } its (fun m' n' => SubL keep n' ∧ Inv r m' n') Q) E s₂) E { s with heap := h, toks := tk })) :
    ∀ ps m news, Inv ps m news → ItemsRest prog w A E h₀ env target body Q s ws keep (ps.map fun p => .pair (fun _ => p.1) p.2) m news
  | [], m, news, hi => ItemsRest.zero fun h tk F N => done m news h tk hi F N
  | p :: r, m, news, hi => ItemsRest.pair fun T t h tk hT F => by
    have up : ∀ its s₂, UnrEndW h₀ env.locals { s with heap := h, toks := tk } its (fun m' n' => SubL keep n' ∧ Inv r m' n') s₂ →
        UnrEndW h₀ env.locals { s with heap := h, toks := tk } its (fun m' n' => SubL keep n' ∧ ItemsRest prog w A E h₀ env target body Q s ws keep (r.map fun p => .pair (fun _ => p.1) p.2) m' n') s₂ := by
      rintro its s₂ ⟨h', tk', m', news', e, F', N', o, k, r'⟩
      exact ⟨h', tk', m', news', e, F', N', o, k, zip_ind Inv done step r m' news' r'⟩
    have lift : ∀ (ws : List (Addr × String)) (k k' : List (Addr × Obj) → Prop), (∀ its, k its → k' its) → AllObj ws k → AllObj ws k' := by
      intro ws
      induction ws with
      | nil => exact fun k k' hk h => hk _ h
      | cons w ws ih => exact fun k k' hk h o ho => ih _ _ (fun its => hk _) (h o ho)
    refine lift _ _ _ (fun its hits N => wpAny_mono (hits N) (fun _ s₂ h₂ => wpAny_mono h₂ (fun f s₃ p => ?_) fun _ _ e => e) fun _ _ e => e) (step p r m news T h tk hi hT F)
    cases f with
    | ret v => exact p
    | brk => exact p
    | next => exact up _ _ p
    | cont => exact up _ _ p
end
section
variable {prog : Program} {w : World} {A : Around} {E : Value → Shared → Prop} {s : Shared} {h₀ : Heap} {L : Addr} {m : Str → Option Value} {env : Env}
theorem prest_const {elt : Expr} {a b : Str} {scope : Scope} {cl : List (Str × Addr)} {bad : List Addr} {Fin : List Value → Led → Prop} {nw : Led} (v : Value) (P : Value × Value → Prop)
    (step : ∀ p ys its C oC D m₂ h tk (E' : Value → Shared → Prop), P p → NsObj oC m₂ → m₂ a = some p.1 → m₂ b = some p.2 → Fr h₀ L h m → News h₀ L h (its ++ (C, oC) :: (D, lst ys) :: nw) → (∀ p ∈ nw, p.1 ∉ bad ∧ p.1 ≠ C ∧ p.1 ≠ D) →
      wpAny (model prog w) A (eval elt (compEnvC scope cl C env)) (PEnd h₀ L m { s with heap := h, toks := tk } its bad C oC D ys (fun y nw' => y = v ∧ nw' = nw)) E' { s with heap := h, toks := tk }) :
    ∀ xs ys, (∀ p ∈ xs, P p) → Fin (ys ++ List.replicate xs.length v) nw → PRest prog w A h₀ L m env elt a b scope cl s bad Fin xs ys nw
  | [], ys, _, hi => by
    show Fin ys nw
    simpa using hi
  | p :: r, ys, hP, hi => fun its C oC D m₂ h tk E' hns ha hb F N off => by
    refine wpAny_mono (step p ys its C oC D m₂ h tk E' (hP p (.head _)) hns ha hb F N off) (fun y s₂ q => ?_) fun _ _ e => e
    obtain ⟨h', tk', nw', e, F', N', o, rfl, rfl⟩ := q
    refine ⟨h', tk', _, e, F', N', o, prest_const _ P step r (ys ++ [_]) (fun q hq => hP q (.tail _ hq)) ?_⟩
    rw [List.length_cons, List.replicate_succ] at hi
    rw [List.append_assoc]
    exact hi
theorem dat_ne_same {news : Led} {v u : Value} {d : Dat} {Q : Value → Shared → Prop} (N : News h₀ L s.heap news) (hv : DatIn news v d) (hu' : DatIn news u d) (hk : kqdOk 8 d = true) (hu : A.units + 64 < cLine) (h : Q (.bool false) s) : wpAny (model prog w) A (compareOp .NotEq v u) Q E s := by
  obtain ⟨as, ra⟩ := kqd_in N 8 hv hk
  obtain ⟨bs, rb⟩ := kqd_in N 8 hu' hk
  have la := kqd_lay 8 d hk
  have e : PyData.eqv (kqdP d) (kqdP d) = true := (kqd_eqv 8 d d 8 hk hk).mpr rfl
  have sh : SeqAt.shaped (kqdP d) = true := by
    unfold SeqAt.shaped; rw [la.1, Bool.true_and]; exact decide_eq_true (Nat.le_trans la.2 (by decide))
  exact ne_dataH ra rb sh sh hu (by rw [e]; exact h)
end
theorem datAll_len {news : Led} {vs : List Value} {ds : List Dat} (h : DatAll news vs ds) : vs.length = ds.length := DatAll.length h
theorem row_ops {N : Int} {r : Row} (h : RowG N r) : (r.op = 256 ∨ r.op = 257 ∨ r.op = 259 ∨ r.op = 260 ∨ r.op = 261 ∨ r.op = 262 ∨ r.op = 267 ∨ r.op = 16490) ∨ (r.op = 4166 ∨ r.op = 4169 ∨ r.op = 8262 ∨ r.op = 8265) ∨ (r.op = 20550 ∨ r.op = 20553 ∨ r.op = 24646 ∨ r.op = 24649) := by
  obtain ⟨op, a, b, c⟩ := r
  cases b with
  | t x y z => exact .inl (.inr (.inr (.inr (.inr (.inr (.inl h.1))))))
  | n k =>
    rcases h with h | h | h | h | h | h | h | h
    · exact .inl (.inr (.inl h.1))
    · exact .inl (.inl h.1)
    · exact .inl (.inr (.inr (.inl h.1)))
    · rcases h.1 with e | e
      · exact .inl (.inr (.inr (.inr (.inl e))))
      · exact .inl (.inr (.inr (.inr (.inr (.inl e)))))
    · exact .inl (.inr (.inr (.inr (.inr (.inr (.inr (.inl h)))))))
    · exact .inl (.inr (.inr (.inr (.inr (.inr (.inr (.inr h.1)))))))
    · exact .inr (.inl h.1)
    · exact .inr (.inr h.1)
theorem law_jump_eq {N : Int} {r : Row} (h : RowG N r) : lawIsJumpF r.op = isJumpF r.op := by
  rcases row_ops h with (h | h | h | h | h | h | h | h) | (h | h | h | h) | (h | h | h | h) <;> (rw [h]; rfl)
theorem out_jump {rs : List Row} {ls : List Int} {row : Row} {k : Int} (hj : isJumpF row.op = true) (hb : row.b = .n k) : outF rs ls row = ⟨row.op, threadF rs ls row.a, .n k, row.c⟩ := by
  simp [outF, hj, ← hb]
theorem out_num {rs : List Row} {ls : List Int} {row : Row} {k : Int} (hj : isJumpF row.op = false) (hb : row.b = .n k) : outF rs ls row = ⟨row.op, row.a, .n k, row.c⟩ := by
  obtain ⟨op, a, b, c⟩ := row
  simp only at hj hb
  subst hb
  simp [outF, hj]
theorem out_tab {rs : List Row} {ls : List Int} {row : Row} {x y z : Int} (hj : isJumpF row.op = false) (hb : row.b = .t x y z) : outF rs ls row = ⟨row.op, row.a, .t (threadF rs ls x) (threadF rs ls y) (threadF rs ls z), row.c⟩ := by
  obtain ⟨op, a, b, c⟩ := row
  simp only at hj hb
  subst hb
  simp [outF, hj]
theorem off5 {I : Addr} {o1 o2 o3 o4 o5 : Obj} {nw : Led} (h : ∀ p ∈ nw, @LT.lt Nat _ p.1 I) : ∀ p ∈ nw, ∀ q ∈ [(I + 4, o1), (I + 2, o2), (I + 3, o3), (I, o4), (I + 1, o5)], p.1 ≠ q.1 := by
  intro p hp q hq
  have h1 := h p hp
  simp only [List.mem_cons, List.not_mem_nil, or_false] at hq
  rcases hq with rfl | rfl | rfl | rfl | rfl <;> exact neN (by dsimp only; omega)

local macro_rules | `(tactic| walk_at "call builtin:len") => `(tactic| (k_here; k_dflt (refine' rows_len (by assumption) (by k_asm) (by k_mem) (by assumption) ?_)))
local macro_rules | `(tactic| walk_at "call builtin:len") => `(tactic| (k_here; k_dflt (refine' kd_len (by k_asm) (by k_mem) (by assumption) (by assumption) ?_)))
local macro_rules | `(tactic| walk_at $s:str) => if ["ItemsRest", "UnrEndW", "PRest", "PEnd", "exec For Tuple Call cons nil", "call type:zip", "call ref", "eval ListComp", "compareOp NotEq ref ref"].contains (Lean.TSyntax.getString s) then `(tactic| refine Hold.out ?_) else Lean.Macro.throwUnsupported
local macro_rules | `(tactic| walk_at "ite") => `(tactic| (k_here; k_openite; first | refine ite_isFalse (by with_reducible assumption) ?_ | refine ite_pos (by first | with_reducible assumption | omega | (rw [beq_iff_eq]; omega) | (rw [decide_eq_true_eq]; omega)) ?_ | refine ite_neg (by first | omega | (rw [beq_iff_eq]; omega) | (rw [decide_eq_true_eq]; omega)) ?_))

theorem are_goals_con {w mean mg mb} (NB : Int) (rl ll ml : Addr) (rs : List Row) (ls : List Int) (W : WF NB rs ls) :
    ConV w mean mg mb 87 4 [.ref rl, .ref ll, .ref ml] (fun news => RowsAt news rl rs ∧ IntsAt news ll ls ∧ RowsAt news ml (rs.map (outF rs ls))) (fun r => r = .bool true) := by
  unfold ConV
  k_fill
  rintro dp un gd cn cs a ccd cl outer A₀ base h₀ L m news s Q E B F X N T hk ⟨⟨us, n, hR, hD⟩, ⟨us', n', hL, hI⟩, ⟨us3, n3, hM, hD3⟩⟩ hd9 hu hret
  have kMark := kdMark
  have hlen := W.le
  have hz1 : ((rs.map Row.dat).length : Int) < 2 ^ 63 := by rw [List.length_map]; omega
  have hz2 : (((rs.map (outF rs ls)).map Row.dat).length : Int) < 2 ^ 63 := by rw [List.length_map, List.length_map]; omega
  refine wpAny_call ?_
  k_dflt (refine' code_defC ?k1 ?k2 ?k3 ?k4 ?k5 ?kA ?kF ?kK ?k6 ?k7 ?k8 ?k9 ?kB ?kD ?_ ?c2 ?c3 ?c4; (case kA => exact rfl); (case kF => exact rfl); (case kK => assumption); (case k1 => k_asm); (case k2 => k_asm); (case k3 => k_asm); (case k4 => k_asm); (case k5 => k_asm); (case k6 => k_is); (case k7 => k_is); (case k8 => ktr_room); (case k9 => exact BindsTo.of_eq rfl); (case kB => exact rfl); (case kD => decide +kernel); (case c2 => exact rfl); (case c3 => exact rfl); (case c4 => exact rfl); k_whole)
  intro g' L' h' tk' cells' FG' F' N' Y' B' X' T' l1
  obtain ⟨o1, o2, hE', d1, d2⟩ := CellsAre.two Y'
  subst hE'
  clear Y'
  simp only [List.cons_append, List.nil_append] at N'
  dsimp only
  (try k_fold)
  k_steps
  · rename_i hne _ _ _ _
    simp at hne
  · refine Hold.mk ?_
    k_here
    rename Fr _ _ _ _ => lF5
    with_unfolding_all refine' For_turns lF5 ?_
    k_steps
    refine Hold.mk ?_
    k_here
    rename Fr _ _ _ _ => lF6
    with_unfolding_all refine' ktu_zip (by rfl) lF6 (by k_asm) (by k_mem) (by rfl) (by rfl) (by k_mem) (by rfl) (by rfl) ?_
    intro IX lX
    (try k_lt lX)
    rw [zipItems_eq]
    have hul : us.length = us3.length := by rw [hD.length, hD3.length]; simp
    refine (zip_ind (fun ps m nx => nx = (L' + 1 + 1, o1) :: (L' + 1, o2) :: news ∧ ∃ post : List Row, (∀ r ∈ post, r ∈ rs) ∧ DatAll news (ps.map (·.1)) (post.map Row.dat) ∧ DatAll news (ps.map (·.2)) ((post.map (outF rs ls)).map Row.dat)) ?done ?step _ _ _ ?init)
    case init =>
      refine ⟨rfl, rs, fun _ h => h, ?_, ?_⟩
      · rw [List.map_fst_zip (by omega)]; exact hD
      · rw [List.map_snd_zip (by omega)]; exact hD3
    case done =>
      rintro m₁ nx h₁ tk₁ ⟨rfl, _⟩ F₁ N₁
      k_steps
      all_goals exact hret _ _ _ (by assumption) (cb_drop (by assumption) (by kqd_sub)) rfl
    case step =>
      rintro ⟨v1, v2⟩ r m₁ nx T₁ h₁ tk₁ ⟨rfl, post, hsub, hp1, hp2⟩ hT₁ F₁ p1 hq1 p2 hq2 p3 hq3 p4 hq4 p5 hq5 N₁
      simp only [List.cons_append, List.nil_append] at N₁
      dsimp only at hT₁ hq1 hq2 hq3 hq4 hq5
      have hoff : ∀ p ∈ (L' + 1 + 1, o1) :: (L' + 1, o2) :: news, @LT.lt Nat _ p.1 IX := by
        intro p hp
        rcases List.mem_cons.mp hp with rfl | hp
        · exact lX.1
        rcases List.mem_cons.mp hp with rfl | hp
        · exact lX.2.1
        · exact ktn_ltOf lX.2.2 p hp
      have hsl : SubL [(rl, listOf us.toArray n), (ml, listOf us3.toArray n3)] ((L' + 1 + 1, o1) :: (L' + 1, o2) :: news) := ⟨List.mem_cons_of_mem _ (List.mem_cons_of_mem _ hR), List.mem_cons_of_mem _ (List.mem_cons_of_mem _ hM), trivial⟩
      cases post with
      | nil => cases hp1
      | cons row post =>
        simp only [List.map_cons] at hp1 hp2
        obtain ⟨w1, us4, ev1, hv1, hp3⟩ := all_cons_inv hp1
        obtain ⟨w2, us5, ev2, hv2, hp4⟩ := all_cons_inv hp2
        cases ev1
        cases ev2
        obtain ⟨ra, rn, t1, t2, vb, t3, rfl, hm, hb⟩ := row_inv hv1
        have hg := W.rows row (hsub _ (.head _))
        have hsub' : ∀ r ∈ post, r ∈ rs := fun q hq => hsub q (.tail _ hq)
        have hje := law_jump_eq hg
        cases hj : isJumpF row.op with
        | true =>
          rw [hj] at hje
          obtain ⟨ha0, ha1, k, hbk⟩ := jump_a hg hj
          rw [hbk] at hb
          obtain ⟨t4, rfl⟩ := bn_inv hb
          rw [out_jump hj hbk] at hv2
          obtain ⟨ma, mn, t5, t6, vb2, t7, rfl, hm2, hb2⟩ := row_inv hv2
          obtain ⟨t8, rfl⟩ := bn_inv hb2
          dsimp only at hm2
          k_steps
          refine Hold.mk ?_
          k_here
          k_dflt (refine' conV_use (by k_asm) (by k_asm) (by k_asm) (by k_asm) (by k_asm) (by first | exact rfl | assumption) (law_is_jump_con _ _ _ _ _ _ _) (by k_mem) (by ktr_room) (by ktr_units) ?_)
          rintro _ _ _ _ _ rfl
          dsimp only
          (try k_fold)
          k_steps
          refine Hold.mk ?_
          k_here
          k_dflt (refine' dat_ne_same (by k_asm) (by kqd_in) (by kqd_in) (by rfl) (by ke_room) ?_)
          k_steps
          refine Hold.mk ?_
          k_here
          k_dflt (refine' conV_use (by k_asm) (by k_asm) (by k_asm) (by k_asm) (by k_asm) (by first | exact rfl | assumption) (is_goal_con _ _ _ _ _ _ _ _ _ (by assumption) (by omega) (by omega) (by rfl)) ⟨⟨_, _, by k_mem, datAll_sub (by assumption) (by kqd_sub)⟩, ⟨_, _, by k_mem, by assumption⟩⟩ (by ktr_room) (by ktr_units) ?_)
          rintro _ _ _ _ _ rfl
          dsimp only
          (try k_fold)
          k_steps
          refine Hold.mk (unrw_end (by assumption) (by assumption) ((L' + 1 + 1, o1) :: (L' + 1, o2) :: news) (by kqd_sub) (off5 hoff) ⟨hsl, rfl, post, hsub', hp3, hp4⟩)
        | false =>
          rw [hj] at hje
          rcases njump hg hj with ⟨k, hbk, hop⟩ | ⟨x, y, z, hbk, hop, x0, x1, y0, y1, z0, z1⟩
          · rw [hbk] at hb
            obtain ⟨t4, rfl⟩ := bn_inv hb
            rw [out_num hj hbk] at hv2
            obtain ⟨ma, mn, t5, t6, vb2, t7, rfl, hm2, hb2⟩ := row_inv hv2
            obtain ⟨t8, rfl⟩ := bn_inv hb2
            dsimp only at hm2
            k_steps
            refine Hold.mk ?_
            k_here
            k_dflt (refine' conV_use (by k_asm) (by k_asm) (by k_asm) (by k_asm) (by k_asm) (by first | exact rfl | assumption) (law_is_jump_con _ _ _ _ _ _ _) (by k_mem) (by ktr_room) (by ktr_units) ?_)
            rintro _ _ _ _ _ rfl
            dsimp only
            (try k_fold)
            k_steps
            refine Hold.mk ?_
            k_here
            k_dflt (refine' dat_ne_same (by k_asm) (by kqd_in) (by kqd_in) (by rfl) (by ke_room) ?_)
            k_steps
            refine Hold.mk (unrw_end (by assumption) (by assumption) ((L' + 1 + 1, o1) :: (L' + 1, o2) :: news) (by kqd_sub) (off5 hoff) ⟨hsl, rfl, post, hsub', hp3, hp4⟩)
          · rw [hbk] at hb
            obtain ⟨ba, bn, t4, t5, t6, rfl, hbm⟩ := bt_inv hb
            rw [out_tab hj hbk] at hv2
            obtain ⟨ma, mn, t7, t8, vb2, t9, rfl, hm2, hb2⟩ := row_inv hv2
            obtain ⟨bc, bd, t10, t11, t12, rfl, hbm2⟩ := bt_inv hb2
            dsimp only at hm2
            k_steps
            refine Hold.mk ?_
            k_here
            k_dflt (refine' conV_use (by k_asm) (by k_asm) (by k_asm) (by k_asm) (by k_asm) (by first | exact rfl | assumption) (law_is_jump_con _ _ _ _ _ _ _) (by k_mem) (by ktr_room) (by ktr_units) ?_)
            rintro _ _ _ _ _ rfl
            dsimp only
            (try k_fold)
            k_steps
            refine Hold.mk ?_
            k_here
            k_dflt (refine' dat_ne_same (by k_asm) (by kqd_in) (by kqd_in) (by rfl) (by ke_room) ?_)
            k_steps
            refine Hold.mk ?_
            k_here
            k_dflt (refine ListComp_Z (F₀ := by k_asm) (by with_unfolding_all rfl) (by decide) (by rfl) (by decide) (by rfl) (by rfl) (by decide) ?_)
            k_steps
            refine Hold.mk ?_
            k_here
            with_unfolding_all refine' zt_src (by rfl) (by k_asm) (by k_asm) (by k_mem) (by k_mem) (by rfl) (Nat.le_of_ble_eq_true rfl) ?_
            intro g9 wr9
            refine (prest_const (.bool true) (fun p => ∃ lb t t2, p = (.int lb t, .int (threadF rs ls lb) t2) ∧ 0 ≤ lb ∧ lb < NB) ?step2 _ _ ?hP ?done2)
            case hP =>
              intro p hp
              simp only [List.zip_cons_cons, List.zip_nil_right, List.mem_cons, List.not_mem_nil, or_false] at hp
              rcases hp with rfl | rfl | rfl
              · exact ⟨_, _, _, rfl, x0, x1⟩
              · exact ⟨_, _, _, rfl, y0, y1⟩
              · exact ⟨_, _, _, rfl, z0, z1⟩
            case done2 =>
              intro D5 h5 tk5 F5 N5 o5
              k_steps
              refine Hold.mk (unrw_end (by assumption) (by assumption) ((L' + 1 + 1, o1) :: (L' + 1, o2) :: news) (by kqd_sub) (off5 hoff) ⟨hsl, rfl, post, hsub', hp3, hp4⟩)
            case step2 =>
              rintro ⟨a1, a2⟩ ys its C5 oC5 D5 m5 h5 tk5 E5 ⟨lb, t15, t16, e15, hl0, hl1⟩ hns ha hb5 F5 N5 off
              cases e15
              dsimp only at ha hb5
              k_steps
              refine Hold.mk ?_
              k_here
              k_dflt (refine' conV_use (by k_asm) (by k_asm) (by k_asm) (by k_asm) (by k_asm) (by first | exact rfl | assumption) (is_goal_con _ _ _ _ _ _ _ _ _ (by assumption) (by omega) (by omega) (by rfl)) ⟨⟨_, _, by k_mem, datAll_sub (by assumption) (by kqd_sub)⟩, ⟨_, _, by k_mem, by assumption⟩⟩ (by ktr_room) (by ktr_units) ?_)
              rintro _ _ _ _ _ rfl
              dsimp only
              (try k_fold)
              k_steps
              exact Hold.mk ⟨_, _, _, rfl, by assumption, by assumption, off, rfl, rfl⟩
end Mine
end

section
open PySem PySem.W PyProof.Rows PySem.Calls PySem.Spec PyProof.Rows.LCg
namespace Mine

inductive Ev where
  | at (x : Int) (ss : List Int)
  | round
def Ev.dat : Ev → Dat
  | .at x ss => .tuple [.int x, .tuple (ss.map Dat.int)]
  | .round => .tuple [.str (Str.ofString "round"), .tuple []]
structure RSt where
  pos : Int
  ss : List Int
  evs : List Ev
  idle : Int
def bNum : Bv → Int
  | .n k => k
  | .t _ _ _ => 0
def bTab : Bv → Int → Int
  | .n _, _ => 0
  | .t x y z, i => if i = 0 then x else if i = 1 then y else z
def nextR (ls : List Int) (r : Row) (x : Int) (ss : List Int) : Int × List Int :=
  if r.op = 257 then (x + 1, ss.set r.a.toNat (bNum r.b))
  else if r.op = 256 then (x + 1, ss.set r.a.toNat (ss.getD (bNum r.b).toNat 0))
  else if r.op = 16490 then (x + 1, ss.set r.a.toNat ((ss.getD (bNum r.b).toNat 0 + r.c).fmod 4294967296))
  else if r.op = 262 then (ls.getD (bTab r.b (if 2 < ss.getD r.a.toNat 0 then 2 else ss.getD r.a.toNat 0)).toNat 0, ss)
  else if doneF r.op (bNum r.b) r.c ss = true then (ls.getD r.a.toNat 0, ss) else (x + 1, ss)
def stepR (rs : List Row) (ls : List Int) (s : RSt) : RSt ⊕ List Ev :=
  if (rowA rs s.pos).op = 259 then
    if (rs.length : Int) < s.idle + 1 then .inr (s.evs ++ [.round]) else .inl ⟨ls.getD (rowA rs s.pos).a.toNat 0, s.ss, s.evs, s.idle + 1⟩
  else if (rowA rs s.pos).op = 267 then .inr (s.evs ++ [.at s.pos s.ss])
  else .inl ⟨(nextR ls (rowA rs s.pos) s.pos s.ss).1, (nextR ls (rowA rs s.pos) s.pos s.ss).2, s.evs ++ [.at s.pos s.ss], 0⟩
inductive Run (rs : List Row) (ls : List Int) : RSt → List Ev → Prop
  | full {s : RSt} (h : ¬ s.evs.length < 24) : Run rs ls s s.evs
  | next {s s' : RSt} {r : List Ev} (h : s.evs.length < 24) (e : stepR rs ls s = .inl s') (k : Run rs ls s' r) : Run rs ls s r
  | stop {s : RSt} {r : List Ev} (h : s.evs.length < 24) (e : stepR rs ls s = .inr r) : Run rs ls s r

inductive Shape (N : Int) (r : Row) : Prop
  | jump (k : Int) (hb : r.b = .n k) (ho : r.op = 259) (h0 : 0 ≤ r.a) (h1 : r.a < N)
  | ret (k : Int) (hb : r.b = .n k) (ho : r.op = 267)
  | con (k : Int) (hb : r.b = .n k) (ho : r.op = 257) (h0 : 0 ≤ r.a) (h1 : r.a < 3) (h2 : 0 ≤ k)
  | mov (k : Int) (hb : r.b = .n k) (ho : r.op = 256) (h0 : 0 ≤ r.a) (h1 : r.a < 3) (h2 : 0 ≤ k) (h3 : k < 3)
  | sum (k : Int) (hb : r.b = .n k) (ho : r.op = 16490) (h0 : 0 ≤ r.a) (h1 : r.a < 3) (h2 : 0 ≤ k) (h3 : k < 3)
  | tab (x y z : Int) (hb : r.b = .t x y z) (ho : r.op = 262) (h0 : 0 ≤ r.a) (h1 : r.a < 3) (x0 : 0 ≤ x) (x1 : x < N) (y0 : 0 ≤ y) (y1 : y < N) (z0 : 0 ≤ z) (z1 : z < N)
  | cond (k : Int) (hb : r.b = .n k) (o1 : r.op ≠ 259) (o2 : r.op ≠ 267) (o3 : r.op ≠ 257) (o4 : r.op ≠ 256) (o5 : r.op ≠ 16490) (o6 : r.op ≠ 262) (h0 : 0 ≤ r.a) (h1 : r.a < N) (h2 : 0 ≤ k) (h3 : k < 3) (hc : ¬ r.op.fdiv 4096 * 4096 < 16384 ∨ (0 ≤ r.c ∧ r.c < 3))
theorem ne_lit {op x y : Int} (h : op = x) (n : decide (x = y) = false) : op ≠ y := fun e => of_decide_eq_false n (h.symm.trans e)
theorem shape {N : Int} {r : Row} (h : RowG N r) : Shape N r := by
  obtain ⟨op, a, b, c⟩ := r
  cases b with
  | t x y z =>
    obtain ⟨a1, a2, a3, a4, a5, a6, a7, a8, a9⟩ := h
    exact .tab x y z rfl a1 a2 a3 a4 a5 a6 a7 a8 a9
  | n k =>
    rcases h with h | h | h | h | h | h | h | h
    · exact .con k rfl h.1 h.2.1 h.2.2.1 h.2.2.2
    · exact .mov k rfl h.1 h.2.1 h.2.2.1 h.2.2.2.1 h.2.2.2.2
    · exact .jump k rfl h.1 h.2.1 h.2.2
    · rcases h.1 with q | q <;> exact .cond k rfl (ne_lit q rfl) (ne_lit q rfl) (ne_lit q rfl) (ne_lit q rfl) (ne_lit q rfl) (ne_lit q rfl) h.2.1 h.2.2.1 h.2.2.2.1 h.2.2.2.2.1 (.inr h.2.2.2.2.2)
    · exact .ret k rfl h
    · exact .sum k rfl h.1 h.2.1 h.2.2.1 h.2.2.2.1 h.2.2.2.2
    · rcases h.1 with q | q | q | q <;> exact .cond k rfl (ne_lit q rfl) (ne_lit q rfl) (ne_lit q rfl) (ne_lit q rfl) (ne_lit q rfl) (ne_lit q rfl) h.2.1 h.2.2.1 h.2.2.2.1 h.2.2.2.2.1 (.inr h.2.2.2.2.2)
    · rcases h.1 with q | q | q | q <;> exact .cond k rfl (ne_lit q rfl) (ne_lit q rfl) (ne_lit q rfl) (ne_lit q rfl) (ne_lit q rfl) (ne_lit q rfl) h.2.1 h.2.2.1 h.2.2.2.1 h.2.2.2.2 (.inl (by have q' : op = _ := q; dsimp only; rw [q']; decide))

section
variable {prog : Program} {w : World} {A : Around} {E : Value → Shared → Prop} {s : Shared} {h₀ : Heap} {L l : Addr}
theorem item_known {value slice : PySem.Expr} {nws : Led} {us : List Value} {n : Nat} {k : Int} {u : Tok} {v : Value} {Q : Value → Shared → Prop} (hv : us[k.toNat]? = some v) (Nw : News h₀ L s.heap nws) (hm : (l, listOf us.toArray n) ∈ nws)
    (h0 : 0 ≤ k) (hfit : k < 2 ^ 63) (h : Q v s)
    (hs : subscripted slice false (.ref l) (.int k u) = operate [.ref l, .int k u] (getItem (.ref l) (.int k u)) := by with_unfolding_all rfl) :
    wpAny (model prog w) A (subscriptTail value slice (.ref l) (.int k u)) Q E s := by
  have hl : s.heap.IsList l us.toArray := ⟨_, (Nw _ hm).1, rfl, n, rfl⟩
  exact tail_any hl.typeIs slot_list_getitem.lookup (wpAny_getItem_list hl h0 hfit (by simpa using hv) h) hs
theorem evs_len {n₁ nws : Led} {us : List Value} {evs : List Ev} {n : Nat} {Q : Value → Shared → Prop} (hd : DatAll n₁ us (evs.map Ev.dat)) (Nw : News h₀ L s.heap nws) (hm : (l, listOf us.toArray n) ∈ nws) (hz : evs.length ≤ 24)
    (h : Q (.int (evs.length : Int) (s.toks + 1)) { s with toks := s.toks + 1 + 1 }) : wpAny (model prog w) A (call (.builtin "len") [.ref l]) Q E s := by
  refine kd_len Nw hm hd (by rw [List.length_map]; omega) ?_
  rw [List.length_map]; exact h
theorem slot_at {value slice : PySem.Expr} {nws : Led} {us : List Value} {ns : List Int} {n : Nat} {k : Int} {u : Tok} {Q : Value → Shared → Prop} (hz : ns.length = 3) (hd : IntsAre us ns) (Nw : News h₀ L s.heap nws) (hm : (l, listOf us.toArray n) ∈ nws)
    (h0 : 0 ≤ k) (h1 : k < 3) (h : ∀ t, Q (.int (ns.getD k.toNat 0) t) s)
    (hs : subscripted slice false (.ref l) (.int k u) = operate [.ref l, .int k u] (getItem (.ref l) (.int k u)) := by with_unfolding_all rfl) :
    wpAny (model prog w) A (subscriptTail value slice (.ref l) (.int k u)) Q E s := by
  have hl : s.heap.IsList l us.toArray := ⟨_, (Nw _ hm).1, rfl, n, rfl⟩
  exact item_anyK hl hd h0 (by omega) (by omega) h hs
end
theorem nn_set {ns : List Int} (h : ∀ i : Nat, 0 ≤ ns.getD i 0) (k : Nat) {v : Int} (hv : 0 ≤ v) : ∀ i : Nat, 0 ≤ (ns.set k v).getD i 0 := by
  intro i
  have hi := h i
  simp only [List.getD_eq_getElem?_getD, List.getElem?_set] at hi ⊢
  split
  · split
    · exact hv
    · simp
  · exact hi
theorem ints_dat {news : Led} : ∀ {vs : List Value} {ns : List Int}, IntsAre vs ns → DatAll news vs (ns.map Dat.int)
  | _, _, .nil => .nil
  | _, _, .cons n t r => .cons (.int n t) (ints_dat r)
theorem ev_snoc {news tl add : Led} {ws : List Value} {evs : List Ev} {e : Ev} {x : Value} (hw : DatAll (news ++ tl) ws (evs.map Ev.dat)) (hx : DatIn (news ++ (add ++ tl)) x e.dat) :
    DatAll (news ++ (add ++ tl)) (ws ++ [x]) ((evs ++ [e]).map Ev.dat) := by
  rw [List.map_append]
  exact (DatAll.mono (fun _ h => sub_mid h) hw).append (.cons hx .nil)
end Mine
end

section
open PySem PySem.W PyProof.Rows PySem.Calls PySem.Spec PyProof.Rows.LCg
namespace Mine


abbrev RF (rs : List Row) (ls : List Int) (row : Row) (x idle : Int) (ss : List Int) (evs : List Ev) : Prop :=
  stepR rs ls ⟨x, ss, evs, idle⟩ = if row.op = 259 then (if (rs.length : Int) < idle + 1 then .inr (evs ++ [.round]) else .inl ⟨ls.getD row.a.toNat 0, ss, evs, idle + 1⟩) else if row.op = 267 then .inr (evs ++ [.at x ss]) else .inl ⟨(nextR ls row x ss).1, (nextR ls row x ss).2, evs ++ [.at x ss], 0⟩
structure RunX (rs : List Row) (ls ns : List Int) (news : Led) (S TT : Addr) (μ : Nat) (x idle : Int) (ss : List Int) (evs : List Ev) (vs ws : List Value) (tl : Led) : Prop where
  hvs : IntsAre vs ss
  hws : DatAll (news ++ tl) ws (evs.map Ev.dat)
  hss : ss.length = 3
  hsn : ∀ i : Nat, 0 ≤ ss.getD i 0
  hx0 : 0 ≤ x
  hx1 : x < rs.length
  hi0 : 0 ≤ idle
  hi1 : idle ≤ rs.length
  hev : evs.length ≤ 24
  htl : ∀ p ∈ tl, @LT.lt Nat _ TT p.1
  hrun : ∀ r, Run rs ls ⟨x, ss, evs, idle⟩ r → Run rs ls ⟨0, ns, [], 0⟩ r
  hμ : (μ : Int) = (24 - (evs.length : Int)) * 20 + (rs.length - idle)
def RunI (rs : List Row) (ls ns : List Int) (news : Led) (rl ll S TT : Addr) (cS : Nat) (μ : Nat) (m : Str → Option Value) (nx : Led) : Prop :=
  ∃ (x idle : Int) (t t' : Tok) (ss : List Int) (evs : List Ev) (vs ws : List Value) (k : Nat) (tl : Led),
    (m (Str.ofString "at") = some (.int x t) ∧ m (Str.ofString "idle") = some (.int idle t') ∧ m (Str.ofString "slots") = some (.ref S) ∧ m (Str.ofString "trace") = some (.ref TT) ∧ m (Str.ofString "rows") = some (.ref rl) ∧ m (Str.ofString "places") = some (.ref ll)) ∧
      nx = (TT, listOf ws.toArray k) :: (S, listOf vs.toArray cS) :: (news ++ tl) ∧ RunX rs ls ns news S TT μ x idle ss evs vs ws tl
theorem ev_mk {news tl : Led} {D1 T1 : Addr} {x : Int} {t : Tok} {vs : List Value} {ss : List Int} (h : IntsAre vs ss) : DatIn (news ++ ([(D1, tupO [.int x t, .ref T1] 0), (T1, tupO vs 0)] ++ tl)) (.ref D1) (Ev.at x ss).dat :=
  DatIn.tuple (vs := [_, _]) (List.mem_append.mpr (.inr (.head _))) (.cons (.int _ _) (.cons (DatIn.tuple (vs := vs) (List.mem_append.mpr (.inr (.tail _ (.head _)))) (ints_dat h)) .nil))
theorem led_run {g h : Heap} {L TT : Addr} {q n1 n2 : Addr × Obj} {c1 : Addr × Obj} {ws : List Value} {x : Value} {k : Nat} {news tl : Led} (N : News g L h (q :: n1 :: n2 :: (TT, listOf (ws.toArray.push x) k) :: c1 :: (news ++ tl))) :
    News g L h ((TT, listOf (ws ++ [x]).toArray k) :: c1 :: (news ++ ([n1, n2] ++ tl))) := by
  rw [List.push_toArray] at N
  refine cb_drop N ?_
  intro p hp
  simp only [List.mem_cons, List.mem_append, List.not_mem_nil, or_false] at hp ⊢
  rcases hp with h | h | h | (h | h) | h <;> simp [h]
section
variable {rs : List Row} {ls ns : List Int} {news tl : Led} {rl ll S TT : Addr} {cS μ : Nat} {x idle : Int} {ss : List Int} {evs : List Ev} {vs ws : List Value} {row : Row} {g h' : Heap} {L : Addr} {m' : Str → Option Value} {s : Shared} {Q : Flow → Shared → Prop} {tk k : Nat} {t t' : Tok}
theorem run_step (hst : RF rs ls row x idle ss evs) (o1 : row.op ≠ 259) (o2 : row.op ≠ 267) {x' : Int} {ss' : List Int} (e : nextR ls row x ss = (x', ss')) (hl : evs.length < 24) {r : List Ev} (hr : Run rs ls ⟨x', ss', evs ++ [.at x ss], 0⟩ r) : Run rs ls ⟨x, ss, evs, idle⟩ r :=
  .next hl (by rw [hst, if_neg o1, if_neg o2, e]) hr
theorem runI_step (V : RunX rs ls ns news S TT μ x idle ss evs vs ws tl) (hlen : rs.length ≤ 12) (hst : RF rs ls row x idle ss evs) (o1 : row.op ≠ 259) (o2 : row.op ≠ 267) (hl : evs.length < 24)
    (x' : Int) (ss' : List Int) {vs' : List Value} {D1 T1 : Addr} {q : Addr × Obj} {t1 : Tok} (e : nextR ls row x ss = (x', ss')) (F : Fr g L h' m') (N : News g L h' (q :: (D1, tupO [.int x t1, .ref T1] 0) :: (T1, tupO vs 0) :: (TT, listOf (ws.toArray.push (.ref D1)) (k + 1)) :: (S, listOf vs'.toArray cS) :: (news ++ tl)))
    (e1 : m' (Str.ofString "at") = some (.int x' t)) (e2 : m' (Str.ofString "idle") = some (.int 0 t')) (e3 : m' (Str.ofString "slots") = some (.ref S)) (e4 : m' (Str.ofString "trace") = some (.ref TT)) (e5 : m' (Str.ofString "rows") = some (.ref rl)) (e6 : m' (Str.ofString "places") = some (.ref ll))
    (hD1 : @LT.lt Nat _ TT D1) (hT1 : @LT.lt Nat _ TT T1) (hv' : IntsAre vs' ss') (hs' : ss'.length = 3) (hn' : ∀ i : Nat, 0 ≤ ss'.getD i 0) (hx0 : 0 ≤ x') (hx1 : x' < rs.length) :
    WhileStep2 g L s (RunI rs ls ns news rl ll S TT cS) Q μ .next { s with heap := h', toks := tk } := by
  have hμ := V.hμ
  have hi1 := V.hi1
  have hi0 := V.hi0
  refine ⟨_, _, _, _, (23 - evs.length) * 20 + rs.length, rfl, F, led_run N, by omega, x', 0, _, _, ss', evs ++ [.at x ss], vs', _, _, _, ⟨e1, e2, e3, e4, e5, e6⟩, rfl, ⟨hv', ev_snoc (add := [_, _]) V.hws (ev_mk V.hvs), hs', hn', hx0, hx1, Int.le_refl _, by omega, ?_, ?_, ?_, ?_⟩⟩
  · rw [List.length_append, List.length_singleton]; omega
  · intro p hp
    rcases List.mem_append.mp hp with hp | hp
    · simp only [List.mem_cons, List.not_mem_nil, or_false] at hp
      rcases hp with rfl | rfl
      · exact hD1
      · exact hT1
    · exact V.htl p hp
  · exact fun r hr => V.hrun r (run_step hst o1 o2 e hl hr)
  · rw [List.length_append, List.length_singleton]
    omega
theorem runI_jump (V : RunX rs ls ns news S TT μ x idle ss evs vs ws tl) (hlen : rs.length ≤ 12) (hst : RF rs ls row x idle ss evs) (o1 : row.op = 259) (hl : evs.length < 24) (hi : ¬ (rs.length : Int) < idle + 1) {q : Addr × Obj}
    (F : Fr g L h' m') (N : News g L h' (q :: (TT, listOf ws.toArray k) :: (S, listOf vs.toArray cS) :: (news ++ tl)))
    (e1 : m' (Str.ofString "at") = some (.int (ls.getD row.a.toNat 0) t)) (e2 : m' (Str.ofString "idle") = some (.int (idle + 1) t')) (e3 : m' (Str.ofString "slots") = some (.ref S)) (e4 : m' (Str.ofString "trace") = some (.ref TT)) (e5 : m' (Str.ofString "rows") = some (.ref rl)) (e6 : m' (Str.ofString "places") = some (.ref ll))
    (hx0 : 0 ≤ ls.getD row.a.toNat 0) (hx1 : ls.getD row.a.toNat 0 < rs.length) :
    WhileStep2 g L s (RunI rs ls ns news rl ll S TT cS) Q μ .next { s with heap := h', toks := tk } := by
  have hμ := V.hμ
  have hi1 := V.hi1
  have hi0 := V.hi0
  refine ⟨_, _, _, _, μ - 1, rfl, F, fun p hp => N p (.tail _ hp), by omega, _, _, _, _, ss, evs, vs, ws, k, tl, ⟨e1, e2, e3, e4, e5, e6⟩, rfl, ⟨V.hvs, V.hws, V.hss, V.hsn, hx0, hx1, by omega, by omega, V.hev, V.htl, ?_, by omega⟩⟩
  exact fun r hr => V.hrun r (.next hl (by rw [hst, if_pos o1, if_neg hi]) hr)
end
section
variable {prog : Program} {w : World} {A : Around} {E : Value → Shared → Prop} {s : Shared} {h₀ : Heap} {L l : Addr}
theorem tab_at {value slice : PySem.Expr} {nws : Led} {x y z N : Int} {t4 t5 t6 : Tok} {n : Nat} {k : Int} {u : Tok} {Q : Value → Shared → Prop} (Nw : News h₀ L s.heap nws) (hm : (l, tupO [.int x t4, .int y t5, .int z t6] n) ∈ nws)
    (h0 : 0 ≤ k ∧ k < 3) (x0 : 0 ≤ x ∧ x < N) (y0 : 0 ≤ y ∧ y < N) (z0 : 0 ≤ z ∧ z < N) (h : ∀ v t, v = bTab (.t x y z) k → 0 ≤ v → v < N → Q (.int v t) s)
    (hs : subscripted slice false (.ref l) (.int k u) = operate [.ref l, .int k u] (getItem (.ref l) (.int k u)) := by with_unfolding_all rfl) :
    wpAny (model prog w) A (subscriptTail value slice (.ref l) (.int k u)) Q E s := by
  have ht := Nw.isTup hm
  obtain ⟨h0, h1⟩ := h0
  have : k = 0 ∨ k = 1 ∨ k = 2 := by omega
  rcases this with rfl | rfl | rfl
  · exact item_tupleT ht (by decide) (by decide) (j := 0) rfl rfl (h _ _ rfl x0.1 x0.2) hs
  · exact item_tupleT ht (by decide) (by decide) (j := 1) rfl rfl (h _ _ rfl y0.1 y0.2) hs
  · exact item_tupleT ht (by decide) (by decide) (j := 2) rfl rfl (h _ _ rfl z0.1 z0.2) hs
end
end Mine
end

section
open PySem PySem.W PyProof.Rows PySem.Calls PySem.Spec PyProof.Rows.LCg
namespace Mine

local macro_rules | `(tactic| walk_at "WhileStep2") => `(tactic| first | ((with_reducible show WhileStep2 _ _ _ _ _ _ Flow.next _); refine Hold.out ?_) | dsimp only [WhileStep2])
local macro_rules | `(tactic| walk_at $s:str) => if ["exec While", "exec While Compare", "last exec While", "call ref", "binaryOp Add ref ref", "call type:list"].contains (Lean.TSyntax.getString s) then `(tactic| refine Hold.out ?_) else Lean.Macro.throwUnsupported
local macro_rules | `(tactic| walk_at "exec If") => `(tactic| ((rename Hold True => hMk9); refine Hold.out ?_))
local macro_rules | `(tactic| k_all) => `(tactic| assumption)
local macro_rules | `(tactic| size_fits) => `(tactic| assumption)
local macro_rules | `(tactic| walk_at "ite") => `(tactic| (k_here; k_openite; first | refine ite_isFalse (by with_reducible assumption) ?_ | refine ite_pos (by first | with_reducible assumption | omega | (rw [beq_iff_eq]; omega) | (rw [decide_eq_true_eq]; omega)) ?_ | refine ite_neg (by first | omega | (rw [beq_iff_eq]; omega) | (rw [decide_eq_true_eq]; omega)) ?_))
local macro_rules | `(tactic| walk_at "call type:tuple") => `(tactic| (k_here; k_dflt (refine' kde_tupleOf (by k_asm) (by k_asm) (by exact News.isList (by k_asm) (by k_mem)) (by assumption) (by rfl) ?_); intro D' h' F' N' l1; (try k_lt l1)))
local macro_rules | `(tactic| walk_at "call builtin:len") => `(tactic| (k_here; k_dflt (refine' rows_len (by assumption) (by k_asm) (by k_mem) (by assumption) ?_)))
local macro_rules | `(tactic| walk_at "call builtin:len") => `(tactic| (k_here; k_dflt (refine' evs_len (by assumption) (by k_asm) (by k_mem) (by assumption) ?_)))
local macro_rules | `(tactic| walk_at "subscriptTail") => `(tactic| (k_here; (with_unfolding_all refine' lab_at (by assumption) (by k_asm) (by k_mem) (by assumption) (by omega) (by omega) ?_ (by with_unfolding_all rfl)); intro t' hlo' hhi'))
local macro_rules | `(tactic| walk_at "subscriptTail") => `(tactic| (k_here; (with_unfolding_all refine' slot_at (by assumption) (by assumption) (by k_asm) (by k_mem) (by omega) (by omega) ?_ (by with_unfolding_all rfl)); intro t'))
local macro_rules | `(tactic| walk_at "subscriptTail") => `(tactic| (k_here; (with_unfolding_all refine' item_known (by with_reducible assumption) (by k_asm) (by k_mem) (by omega) (by omega) ?_ (by with_unfolding_all rfl))))

section
variable {prog : Program} {w : World} {A : Around} {E : Value → Shared → Prop} {s : Shared} {h₀ : Heap} {L a b : Addr} {m : Str → Option Value} {news : Led} {vs ws : List Value} {n n2 : Nat} {Q : Value → Shared → Prop}
theorem add_led (F : Fr h₀ L s.heap m) (N : News h₀ L s.heap news) (ha : (a, listOf vs.toArray n) ∈ news) (hb : (b, listOf ws.toArray n2) ∈ news) (hz : vs.length + ws.length ≤ sizeLine)
    (h : ∀ D h', Fr h₀ L h' m → News h₀ L h' ((D, listOf (vs ++ ws).toArray 0) :: news) → (∀ p ∈ news, p.1 < D) → Q (.ref D) { s with heap := h' }) : wpAny (model prog w) A (binaryOp .Add (.ref a) (.ref b)) Q E s :=
  add_lists F N (N.isList ha) (N.isList hb) (fun h' F' N' => h _ h' F' N' fun p hp => Heap.lt_size (N p hp).1) hz
end
theorem led_f {g h : Heap} {L : Addr} {p q : Addr × Obj} {news tl : Led} (N : News g L h (p :: q :: (news ++ tl))) : News g L h (news ++ (p :: tl)) := by
  refine cb_drop N ?_
  intro r hr
  simp only [List.mem_cons, List.mem_append] at hr ⊢
  rcases hr with h | h | h <;> simp [h]
theorem led_g {g h : Heap} {L : Addr} {p q r e t a b : Addr × Obj} {news tl : Led} (N : News g L h (p :: q :: r :: e :: t :: a :: b :: (news ++ tl))) : News g L h (news ++ (p :: ([r, e] ++ tl))) := by
  refine cb_drop N ?_
  intro z hz
  simp only [List.mem_cons, List.mem_append, List.not_mem_nil, or_false] at hz ⊢
  rcases hz with h | h | (h | h) | h <;> simp [h]
theorem round_mk {news tl : Led} {p : Addr × Obj} {R Em : Addr} {t : Tok} : DatIn (news ++ (p :: ([(R, tupO [.str (Str.ofString "round") t, .ref Em] 0), (Em, tupO [] 0)] ++ tl))) (.ref R) Ev.round.dat :=
  DatIn.tuple (vs := [_, _]) (List.mem_append.mpr (.inr (.tail _ (.head _)))) (.cons (.str _ _) (.cons (DatIn.tuple (vs := []) (List.mem_append.mpr (.inr (.tail _ (.tail _ (.head _))))) .nil) .nil))
theorem sub_new {news tl : Led} {p : Addr × Obj} : ∀ q ∈ news ++ tl, q ∈ news ++ (p :: tl) := fun q hq => (List.mem_append.mp hq).elim (fun h => List.mem_append.mpr (.inl h)) fun h => List.mem_append.mpr (.inr (.tail _ h))
theorem ord_cons {news tl : Led} {d : Addr} {o : Obj} (h : ∀ q ∈ news, q.1 < d) (k : ∀ q ∈ news, ∀ p ∈ tl, q.1 < p.1) : ∀ q ∈ news, ∀ p ∈ (d, o) :: tl, q.1 < p.1 := by
  intro q hq p hp
  rcases List.mem_cons.mp hp with rfl | hp
  · exact h q hq
  · exact k q hq p hp
theorem lt_left {news tl : Led} {d : Addr} (h : AllLt d (news ++ tl)) : ∀ q ∈ news, q.1 < d := fun q hq => ktn_ltOf h q (List.mem_append.mpr (.inl hq))


local macro_rules | `(tactic| walk_at "subscriptTail") => `(tactic| (k_here; (with_unfolding_all refine' tab_at (by k_asm) (by k_mem) (by first | assumption | (split <;> omega)) (by assumption) (by assumption) (by assumption) ?_ (by with_unfolding_all rfl)); intro v' t' hv' hv0' hv1'))

theorem law_run_con {w mean mg mb} (NB : Int) (rl ll bl : Addr) (rs : List Row) (ls ns : List Int) (W : WF NB rs ls) (hns : ns.length = 3) (hnn : ∀ i : Nat, 0 ≤ ns.getD i 0) :
    Con w mean mg mb 68 2 [.ref rl, .ref ll, .ref bl] (fun news => RowsAt news rl rs ∧ IntsAt news ll ls ∧ IntsAt news bl ns) (fun nw r => ∃ D vs n evs, r = .ref D ∧ (D, listOf vs.toArray n) ∈ nw ∧ DatAll nw vs (evs.map Ev.dat) ∧ Run rs ls ⟨0, ns, [], 0⟩ evs) := by
  unfold Con
  k_fill
  rintro dp un gd cn cs a ccd cl outer A₀ base h₀ L m news s Q E B F X N T hk ⟨⟨us, n, hR, hD⟩, ⟨us', n', hL, hI⟩, ⟨us3, n3, hB, hB2⟩⟩ hd9 hu hret
  have kMark := kdMark
  have hz3 : us3.toArray.size ≤ sizeLine := by
    rw [List.size_toArray, PySem.sizeLine_eq, hB2.length]; omega
  refine wpAny_call ?_
  k_dflt ktr_enter
  k_steps
  refine Hold.mk ?_
  k_here
  k_dflt (refine' list_copyK (by k_asm) (by k_asm) (News.isList (by k_asm) (by k_mem)) ?_ (by assumption))
  intro S cS hA FA9 NA9 lS
  k_steps
  rename_i TT hB' lT D9 hC' lD g4 g3 g2 g1 g0 FX NX
  refine Hold.mk (While_inv2 (n₀ := 480 + rs.length) (RunI rs ls ns news rl ll S TT cS) (by assumption) (show News _ _ _ ((TT, listOf ([] : List Value).toArray 0) :: (S, listOf us3.toArray cS) :: news) from cb_drop NX (by kqd_sub)) ?init ?turn)
  case init =>
    have hW := W.pos
    exact ⟨0, 0, _, _, ns, [], us3, [], 0, [], ⟨by with_unfolding_all rfl, by with_unfolding_all rfl, by with_unfolding_all rfl, by with_unfolding_all rfl, by with_unfolding_all rfl, by with_unfolding_all rfl⟩, by rw [List.append_nil], ⟨hB2, .nil, hns, hnn, by omega, by omega, by omega, by omega, by simp, (fun _ h => nomatch h), fun _ h => h, by simp⟩⟩
  case turn =>
    rintro μ m₁ nx h₁ tk₁ F₁ N₁ ⟨x, idle, t, t', ss, evs, vs, ws, k, tl, ⟨e1, e2, e3, e4, e5, e6⟩, rfl, V⟩
    have ⟨hvs, hws, hss, hsn, hx0, hx1, hi0, hi1, hev, htl, hrun, hμ⟩ := V
    have F₂ := fr_sets [(Str.ofString "at", .int x t), (Str.ofString "idle", .int idle t'), (Str.ofString "slots", .ref S), (Str.ofString "trace", .ref TT), (Str.ofString "rows", .ref rl), (Str.ofString "places", .ref ll)] F₁ (by simp (decide := true) [e1, e2, e3, e4, e5, e6])
    clear F₁
    have hwz : ws.toArray.size ≤ sizeLine := by
      have h2 := hws.length
      rw [List.length_map] at h2
      rw [List.size_toArray, PySem.sizeLine_eq]; omega
    have hwl : ws.length ≤ 24 := by
      have h2 := hws.length
      rw [List.length_map] at h2
      omega
    have hvz : vs.toArray.size ≤ 16384 := by
      have h2 := hvs.length
      rw [List.size_toArray]; omega
    have hST : @LT.lt Nat _ S TT := lT.1
    have hne1 : @Ne Nat S TT := Nat.ne_of_lt hST
    have hne2 : @Ne Nat TT S := Nat.ne_of_gt hST
    have hoffT : ∀ p ∈ news ++ tl, p.1 ≠ TT := by
      intro p hp
      rcases List.mem_append.mp hp with hp | hp
      · exact Nat.ne_of_lt (Nat.lt_trans (lS p hp) hST)
      · exact Nat.ne_of_gt (htl p hp)
    have hoffS : ∀ p ∈ news ++ tl, p.1 ≠ S := by
      intro p hp
      rcases List.mem_append.mp hp with hp | hp
      · exact Nat.ne_of_lt (lS p hp)
      · exact Nat.ne_of_gt (Nat.lt_trans hST (htl p hp))
    obtain ⟨hrm, hrg⟩ := W.row hx0 hx1
    have hN := W.len
    have hlen := W.le
    have hG := shape (W.rows _ hrm)
    obtain ⟨row, hrow⟩ : ∃ row, row = rowA rs x := ⟨_, rfl⟩
    have hus : ∃ v, us[x.toNat]? = some v ∧ DatIn news v row.dat := by
      have hk : x.toNat < rs.length := by omega
      obtain ⟨v, hv, hd⟩ := hD.get (k := x.toNat) (by rw [List.length_map]; exact hk)
      refine ⟨v, hv, ?_⟩
      rw [hrow]
      rw [List.getElem_map] at hd
      have : rowA rs x = rs[x.toNat] := by simp [rowA, hk]
      rw [this]; exact hd
    obtain ⟨v, hv, hvd⟩ := hus
    obtain ⟨ra, rn, t1, t2, vb, t3, rfl, hrm2, hb⟩ := row_inv hvd
    rw [← hrow] at hG
    have hlast : row.op ≠ 267 → x + 1 < rs.length := by rw [hrow]; exact W.last x hx0 hx1
    have hst : RF rs ls row x idle ss evs := by
      rw [hrow]; rfl
    have hoT : ∀ q ∈ news, ∀ p ∈ tl, q.1 < p.1 := fun q hq p hp => Nat.lt_trans (ktn_ltOf lT.2 q hq) (htl p hp)
    clear hvd hrg hrm
    clear hrow
    have mk1 : Hold True := Hold.mk trivial
    k_steps
    rotate_left 1
    · exact hret _ ((TT, listOf ws.toArray k) :: tl) _ _ (by assumption) (led_f (by assumption)) (ord_cons (ktn_ltOf lT.2) hoT) ⟨TT, ws, k, evs, rfl, List.mem_append.mpr (.inr (.head _)), DatAll.mono sub_new hws, hrun _ (.full (by show ¬ evs.length < 24; omega))⟩
    rename Hold True => mk2
    clear mk2
    refine Hold.mk ?_
    cases hG with
    | jump k5 hbk ho h0 h1 =>
      rw [hbk] at hb
      obtain ⟨t4, rfl⟩ := bn_inv hb
      k_steps
      · refine Hold.mk ?_
        k_here
        k_dflt (refine' add_led (by k_asm) (by k_asm) (by k_mem) (by k_mem) (by (rw [PySem.sizeLine_eq]; simp only [List.length_cons, List.length_nil]; omega)) ?_)
        intro D5 hh0 FX2 NX2 lD5
        (try k_lt lD5)
        rename_i Em hh3 lEm R hh2 lR l5 hh1 FX1 NX1 lL
        k_steps
        rename_i kF kN Tc kX
        refine hret _ ((D5, listOf (ws ++ [Value.ref R]).toArray 0) :: ([(R, tupO [.str (Str.ofString "round") _, .ref Em] 0), (Em, tupO [] 0)] ++ tl)) _ _ (by assumption) (led_g kN) (ord_cons (lt_left lD5.2.2.2.2.2.2) (ord_cons (lt_left lR.2.2.2.2) (ord_cons (lt_left lEm.2.2.2) hoT)))
          ⟨D5, _, 0, evs ++ [.round], rfl, List.mem_append.mpr (.inr (.head _)), ?_, hrun _ (.stop (by show evs.length < 24; omega) (by rw [hst, if_pos ho, if_pos (by assumption)]))⟩
        rw [List.map_append]
        exact (DatAll.mono (fun p hp => (List.mem_append.mp hp).elim (fun h => List.mem_append.mpr (.inl h)) fun h => List.mem_append.mpr (.inr (.tail _ (List.mem_append.mpr (.inr h))))) hws).append (.cons round_mk .nil)
      · refine Hold.mk (runI_jump V hlen hst ho (by omega) (by assumption) (by assumption) (by assumption) (by with_unfolding_all rfl) (by with_unfolding_all rfl) (by with_unfolding_all rfl) (by with_unfolding_all rfl) (by with_unfolding_all rfl) (by with_unfolding_all rfl) (by assumption) (by assumption))
    | ret k5 hbk ho =>
      rw [hbk] at hb
      obtain ⟨t4, rfl⟩ := bn_inv hb
      k_steps
      · rename_i T1 hh6 lT1 D1 hh5 lD1 hh4 tk0 DX hh3 lX hh2 hh1 hh0 FX1 NX1 kF kN Tc kX
        have kN2 := led_f (led_run kN)
        refine hret _ ((TT, listOf (ws ++ [Value.ref D1]).toArray (k + 1)) :: ([(D1, tupO [.int x t, .ref T1] 0), (T1, tupO vs 0)] ++ tl)) _ _ (by assumption) kN2 (ord_cons (ktn_ltOf lT.2) (ord_cons (lt_left lD1.2.2.2) (ord_cons (lt_left lT1.2.2) hoT)))
          ⟨TT, _, k + 1, evs ++ [.at x ss], rfl, List.mem_append.mpr (.inr (.head _)), DatAll.mono sub_new (ev_snoc (add := [_, _]) hws (ev_mk hvs)), hrun _ (.stop (by show evs.length < 24; omega) (by rw [hst, if_neg (by omega), if_pos ho]))⟩
    | con k5 hbk ho h0 h1 h2 =>
      rw [hbk] at hb
      obtain ⟨t4, rfl⟩ := bn_inv hb
      k_steps
      · refine Hold.mk (runI_step V hlen hst (by omega) (by omega) (by omega) (x + 1) (ss.set row.a.toNat k5) (by rw [nextR, if_pos ho, hbk]; rfl) (by assumption) (by assumption) (by with_unfolding_all rfl) (by with_unfolding_all rfl) (by with_unfolding_all rfl) (by with_unfolding_all rfl) (by with_unfolding_all rfl) (by with_unfolding_all rfl) (by omega) (by omega) (by assumption) (by rw [List.length_set]; exact hss) (nn_set hsn _ h2) (by omega) (hlast (by omega)))
    | mov k5 hbk ho h0 h1 h2 h3 =>
      rw [hbk] at hb
      obtain ⟨t4, rfl⟩ := bn_inv hb
      k_steps
      · refine Hold.mk (runI_step V hlen hst (by omega) (by omega) (by omega) (x + 1) (ss.set row.a.toNat (ss.getD k5.toNat 0)) (by rw [nextR, if_neg (by omega), if_pos ho, hbk]; rfl) (by assumption) (by assumption) (by with_unfolding_all rfl) (by with_unfolding_all rfl) (by with_unfolding_all rfl) (by with_unfolding_all rfl) (by with_unfolding_all rfl) (by with_unfolding_all rfl) (by omega) (by omega) (by assumption) (by rw [List.length_set]; exact hss) (nn_set hsn _ (hsn _)) (by omega) (hlast (by omega)))
    | sum k5 hbk ho h0 h1 h2 h3 =>
      rw [hbk] at hb
      obtain ⟨t4, rfl⟩ := bn_inv hb
      k_steps
      · refine Hold.mk (runI_step V hlen hst (by omega) (by omega) (by omega) (x + 1) (ss.set row.a.toNat ((ss.getD k5.toNat 0 + row.c).fmod 4294967296)) (by rw [nextR, if_neg (by omega), if_neg (by omega), if_pos ho, hbk]; rfl) (by assumption) (by assumption) (by with_unfolding_all rfl) (by with_unfolding_all rfl) (by with_unfolding_all rfl) (by with_unfolding_all rfl) (by with_unfolding_all rfl) (by with_unfolding_all rfl) (by omega) (by omega) (by assumption) (by rw [List.length_set]; exact hss) (nn_set hsn _ (Int.fmod_nonneg_of_pos _ (by decide))) (by omega) (hlast (by omega)))
    | tab x5 y5 z5 hbk ho h0 h1 x50 x51 y50 y51 z50 z51 =>
      rw [hbk] at hb
      obtain ⟨ba, bn, t4, t5, t6, rfl, hbm⟩ := bt_inv hb
      have hs0 := hsn row.a.toNat
      have hx5 := And.intro x50 x51
      have hy5 := And.intro y50 y51
      have hz5 := And.intro z50 z51
      k_steps
      · rename_i v9 t9 hv9 hv0 hv1 t8 hl0 hl1 hh0 FX1 NX1
        refine Hold.mk (runI_step V hlen hst (by omega) (by omega) (by omega) (ls.getD v9.toNat 0) (ss) (by rw [nextR, if_neg (by omega), if_neg (by omega), if_neg (by omega), if_pos ho, hbk, hv9]; rfl) (by assumption) (by assumption) (by with_unfolding_all rfl) (by with_unfolding_all rfl) (by with_unfolding_all rfl) (by with_unfolding_all rfl) (by with_unfolding_all rfl) (by with_unfolding_all rfl) (by omega) (by omega) (by assumption) hss hsn (by assumption) (by assumption))
    | cond k5 hbk o1 o2 o3 o4 o5 o6 h0 h1 h2 h3 hc =>
      rw [hbk] at hb
      obtain ⟨t4, rfl⟩ := bn_inv hb
      have hk5 := And.intro h2 h3
      k_steps
      · refine Hold.mk ?_
        k_here
        k_dflt (refine' conV_use (by k_asm) (by k_asm) (by k_asm) (by k_asm) (by k_asm) (by first | exact rfl | assumption) (law_is_done_con _ _ _ _ _ _ _ _ _ _ _ _ _ _ (by assumption) (by assumption) (by assumption) (by assumption)) ⟨by k_mem, by k_mem⟩ (by ktr_room) (by ktr_units) ?_)
        rintro _ _ _ _ _ rfl
        dsimp only
        (try k_fold)
        k_steps
        · refine Hold.mk (runI_step V hlen hst (by omega) (by omega) (by omega) (ls.getD row.a.toNat 0) (ss) (by rw [nextR, if_neg o3, if_neg o4, if_neg o5, if_neg o6, hbk]; exact if_pos (by assumption)) (by assumption) (by assumption) (by with_unfolding_all rfl) (by with_unfolding_all rfl) (by with_unfolding_all rfl) (by with_unfolding_all rfl) (by with_unfolding_all rfl) (by with_unfolding_all rfl) (by omega) (by omega) (by assumption) hss hsn (by assumption) (by assumption))
        · refine Hold.mk (runI_step V hlen hst (by omega) (by omega) (by omega) (x + 1) (ss) (by rw [nextR, if_neg o3, if_neg o4, if_neg o5, if_neg o6, hbk]; exact if_neg (Bool.eq_false_iff.mp (by assumption))) (by assumption) (by assumption) (by with_unfolding_all rfl) (by with_unfolding_all rfl) (by with_unfolding_all rfl) (by with_unfolding_all rfl) (by with_unfolding_all rfl) (by with_unfolding_all rfl) (by omega) (by omega) (by assumption) hss hsn (by omega) (hlast (by omega)))
end Mine
end

section
open PySem PySem.W PyProof.Rows PySem.Calls PySem.Spec PyProof.Rows.LCg
namespace Mine

theorem cond_jump {N : Int} {r : Row} (h : RowG N r) (o1 : r.op ≠ 259) (o2 : r.op ≠ 267) (o3 : r.op ≠ 257) (o4 : r.op ≠ 256) (o5 : r.op ≠ 16490) (o6 : r.op ≠ 262) : isJumpF r.op = true := by
  rcases row_ops h with (h | h | h | h | h | h | h | h) | (h | h | h | h) | (h | h | h | h) <;> first | exact absurd h (by assumption) | (rw [h]; rfl)
theorem out_op (rs : List Row) (ls : List Int) (r : Row) : (outF rs ls r).op = r.op := by
  unfold outF
  split
  · rfl
  · split <;> rfl
noncomputable def madeF (rs : List Row) (ls : List Int) : List Row := rs.map (outF rs ls)
def plcF (n : Nat) : List Int := (List.range n).map fun (i : Nat) => (i : Int)
theorem plc_len (n : Nat) : (plcF n).length = n := by simp [plcF]
theorem plc_at {n : Nat} {x : Int} (h0 : 0 ≤ x) (h1 : x < n) : (plcF n).getD x.toNat 0 = x := by
  have hx : x.toNat < n := by omega
  simp [plcF, hx]; omega
theorem made_len (rs : List Row) (ls : List Int) : (madeF rs ls).length = rs.length := by simp [madeF]
theorem made_row {rs : List Row} {ls : List Int} {x : Int} (h0 : 0 ≤ x) (h1 : x < rs.length) : rowA (madeF rs ls) x = outF rs ls (rowA rs x) := by
  have hx : x.toNat < rs.length := by omega
  simp [rowA, madeF, hx]

section
variable {N : Int} {rs : List Row} {ls : List Int}
theorem thread_bd (W : WF N rs ls) {lb : Int} (h0 : 0 ≤ lb) (h1 : lb < N) : 0 ≤ threadF rs ls lb ∧ threadF rs ls lb < rs.length := by
  have h := W.lab lb h0 h1
  exact W.iter 8 h.1 h.2
theorem made_wf (W : WF N rs ls) : WF (rs.length : Int) (madeF rs ls) (plcF rs.length) where
  pos := by rw [made_len]; exact W.pos
  le := by rw [made_len]; exact W.le
  rows := by
    intro r hr
    obtain ⟨row, hrow, rfl⟩ := List.mem_map.mp hr
    have hg := W.rows row hrow
    cases hj : isJumpF row.op with
    | true =>
      obtain ⟨ha0, ha1, k, hbk⟩ := jump_a hg hj
      rw [out_jump hj hbk]
      have ht := thread_bd W ha0 ha1
      obtain ⟨op, a, b, c⟩ := row
      simp only at hbk hj
      subst hbk
      simp only [RowG] at hg ⊢
      rcases hg with h | h | h | h | h | h | h | h
      · rw [h.1] at hj; exact absurd hj (by decide)
      · rw [h.1] at hj; exact absurd hj (by decide)
      · exact .inr (.inr (.inl ⟨h.1, ht.1, ht.2⟩))
      · exact .inr (.inr (.inr (.inl ⟨h.1, ht.1, ht.2, h.2.2.2⟩)))
      · rw [h] at hj; exact absurd hj (by decide)
      · rw [h.1] at hj; exact absurd hj (by decide)
      · exact .inr (.inr (.inr (.inr (.inr (.inr (.inl ⟨h.1, ht.1, ht.2, h.2.2.2⟩))))))
      · exact .inr (.inr (.inr (.inr (.inr (.inr (.inr ⟨h.1, ht.1, ht.2, h.2.2.2⟩))))))
    | false =>
      rcases njump hg hj with ⟨k, hbk, hop⟩ | ⟨x, y, z, hbk, hop, x0, x1, y0, y1, z0, z1⟩
      · rw [out_num hj hbk]
        obtain ⟨op, a, b, c⟩ := row
        simp only at hbk hj hop
        subst hbk
        simp only [RowG] at hg ⊢
        rcases hg with h | h | h | h | h | h | h | h
        · exact .inl h
        · exact .inr (.inl h)
        · rw [h.1] at hj; exact absurd hj (by decide)
        · rcases h.1 with e | e <;> (rw [e] at hj; exact absurd hj (by decide))
        · exact .inr (.inr (.inr (.inr (.inl h))))
        · exact .inr (.inr (.inr (.inr (.inr (.inl h)))))
        · rcases h.1 with e | e | e | e <;> (rw [e] at hj; exact absurd hj (by decide))
        · rcases h.1 with e | e | e | e <;> (rw [e] at hj; exact absurd hj (by decide))
      · rw [out_tab hj hbk]
        have hx := thread_bd W x0 x1
        have hy := thread_bd W y0 y1
        have hz := thread_bd W z0 z1
        obtain ⟨op, a, b, c⟩ := row
        simp only at hbk hj hop
        subst hbk
        simp only [RowG] at hg ⊢
        exact ⟨hop, hg.2.1, hg.2.2.1, hx.1, hx.2, hy.1, hy.2, hz.1, hz.2⟩
  labs := by rw [plc_len]
  lab := by
    intro k h0 h1
    rw [plc_at h0 h1, made_len]
    exact ⟨h0, h1⟩
  len := by have := W.le; omega
  last := by
    intro k h0 h1 ho
    rw [made_len] at h1 ⊢
    have e : (madeF rs ls).getD k.toNat ⟨0, 0, .n 0, 0⟩ = outF rs ls (rowA rs k) := made_row h0 h1
    rw [e, out_op] at ho
    exact W.last k h0 h1 ho

theorem made_step (W : WF N rs ls) {x : Int} (h0 : 0 ≤ x) (h1 : x < rs.length) : stepF (madeF rs ls) (plcF rs.length) x = iterF rs ls 9 x := by
  rw [stepF, made_row h0 h1, out_op]
  by_cases ho : (rowA rs x).op = 259
  · rw [if_pos ho]
    have hg := W.rows _ (W.row h0 h1).1
    have hj : isJumpF (rowA rs x).op = true := by rw [ho]; rfl
    obtain ⟨ha0, ha1, k, hbk⟩ := jump_a hg hj
    rw [out_jump hj hbk]
    have ht := thread_bd W ha0 ha1
    show (plcF rs.length).getD (threadF rs ls (rowA rs x).a).toNat 0 = _
    rw [plc_at ht.1 ht.2]
    show iterF rs ls 8 (ls.getD (rowA rs x).a.toNat 0) = iterF rs ls 8 (stepF rs ls x)
    rw [stepF, if_pos ho]
  · rw [if_neg ho, iter_fix ho]
theorem made_iter (W : WF N rs ls) : ∀ (k : Nat) {x : Int}, 0 ≤ x → x < rs.length → iterF (madeF rs ls) (plcF rs.length) k x = iterF rs ls (9 * k) x
  | 0, _, _, _ => rfl
  | k + 1, x, h0, h1 => by
    show iterF (madeF rs ls) (plcF rs.length) k (stepF (madeF rs ls) (plcF rs.length) x) = _
    rw [made_step W h0 h1]
    have hb := W.iter 9 h0 h1
    rw [made_iter W k hb.1 hb.2, ← iter_add, show 9 * (k + 1) = 9 + 9 * k by omega]

theorem run_next_inv {s s' : RSt} {r : List Ev} (h : s.evs.length < 24) (e : stepR rs ls s = .inl s') (R : Run rs ls s r) : Run rs ls s' r := by
  cases R with
  | full h' => exact absurd h h'
  | next _ e' k => rw [e] at e'; cases e'; exact k
  | stop _ e' => rw [e] at e'; cases e'
theorem run_stop_inv {s : RSt} {r r' : List Ev} (h : s.evs.length < 24) (e : stepR rs ls s = .inr r') (R : Run rs ls s r) : r = r' := by
  cases R with
  | full h' => exact absurd h h'
  | next _ e' k => rw [e] at e'; cases e'
  | stop _ e' => rw [e] at e'; cases e'; rfl
theorem run_full_inv {s : RSt} {r : List Ev} (h : ¬ s.evs.length < 24) (R : Run rs ls s r) : r = s.evs := by
  cases R with
  | full h' => rfl
  | next h' e' k => exact absurd h' h
  | stop h' e' => exact absurd h' h

theorem chain {p : Int} {ss : List Int} {evs : List Ev} {r : List Ev} (he : evs.length < 24) : ∀ k : Nat, (∀ i, i < k → (rowA rs (iterF rs ls i p)).op = 259) → k ≤ rs.length → Run rs ls ⟨p, ss, evs, 0⟩ r → Run rs ls ⟨iterF rs ls k p, ss, evs, k⟩ r
  | 0, _, _, R => R
  | k + 1, h, hk, R => by
    have R' := chain he k (fun i hi => h i (by omega)) (by omega) R
    have ho := h k (by omega)
    refine run_next_inv (by exact he) ?_ R'
    show (if (rowA rs (iterF rs ls k p)).op = 259 then _ else _) = _
    rw [if_pos ho, if_neg (by show ¬ (rs.length : Int) < (k : Int) + 1; omega), iterF_comm, stepF, if_pos ho]
    rfl
theorem pig (W : WF N rs ls) {p : Int} (h0 : 0 ≤ p) (h1 : p < rs.length) {m : Nat} (hm : (rowA rs (iterF rs ls m p)).op ≠ 259) : ∀ k : Nat, (∀ i, i ≤ k → (rowA rs (iterF rs ls i p)).op = 259) → k + 1 + leftN rs.length (itersL rs ls k p) ≤ rs.length
  | 0, _ => by
    have := leftN_lt (n := rs.length) (ws := []) (y := p) h0 h1 rfl
    have h2 : leftN rs.length [] ≤ rs.length := by
      refine Nat.le_trans (List.length_filter_le _ _) ?_
      rw [List.length_range]; exact Nat.le_refl _
    have e : itersL rs ls 0 p = [] ++ [p] := rfl
    rw [e]; omega
  | k + 1, h => by
    have ih := pig W h0 h1 hm k fun i hi => h i (by omega)
    have hb := W.iter (k + 1) h0 h1
    rw [itersL_succ]
    have hnot : (itersL rs ls k p).any (· == iterF rs ls (k + 1) p) = false := by
      cases hc : (itersL rs ls k p).any (· == iterF rs ls (k + 1) p) with
      | false => rfl
      | true =>
        have hmem := any_mem hc
        have cl := way_closed (rs := rs) (ls := ls) (x0 := p) (k := k) (fun _ => by rw [← iterF_comm]; exact hmem) m
        obtain ⟨i, hi, e⟩ := mem_itersL.mp cl
        rw [e] at hm
        exact absurd (h i (by omega)) hm
    have := leftN_lt (n := rs.length) hb.1 hb.2 hnot
    omega
theorem first_end {p : Int} : ∀ m : Nat, (rowA rs (iterF rs ls m p)).op ≠ 259 → ∃ k, (rowA rs (iterF rs ls k p)).op ≠ 259 ∧ ∀ i, i < k → (rowA rs (iterF rs ls i p)).op = 259
  | 0, h => ⟨0, h, fun i hi => absurd hi (Nat.not_lt_zero _)⟩
  | m + 1, h => by
    by_cases hc : ∃ j, j ≤ m ∧ (rowA rs (iterF rs ls j p)).op ≠ 259
    · obtain ⟨j, hj, hjo⟩ := hc
      exact first_end j hjo
    · exact ⟨m + 1, h, fun i hi => Classical.byContradiction fun hn => hc ⟨i, by omega, hn⟩⟩
  termination_by m => m
  decreasing_by omega
/-- a run from any place: to the end of its jumps, or round -/
theorem run_end (W : WF N rs ls) {p : Int} {ss : List Int} {evs r : List Ev} (h0 : 0 ≤ p) (h1 : p < rs.length) (he : evs.length < 24) (R : Run rs ls ⟨p, ss, evs, 0⟩ r) {m : Nat} (hm : (rowA rs (iterF rs ls m p)).op ≠ 259) :
    ∃ i, Run rs ls ⟨iterF rs ls m p, ss, evs, i⟩ r := by
  obtain ⟨k, hk, hlt⟩ := first_end m hm
  have hkn : k ≤ rs.length := by
    rcases Nat.eq_zero_or_pos k with h | h
    · omega
    · have := pig W h0 h1 hm (k - 1) fun i hi => hlt i (by omega)
      omega
  have R' := chain he k hlt hkn R
  have e : iterF rs ls m p = iterF rs ls k p := by
    rcases Nat.le_total k m with h | h
    · rw [show m = k + (m - k) by omega, iter_add, iter_fix hk]
    · have : ¬ m < k := fun hl => hm (hlt m hl)
      rw [show m = k by omega]
  exact ⟨_, e ▸ R'⟩
theorem run_round {p : Int} {ss : List Int} {evs r : List Ev} (he : evs.length < 24) (R : Run rs ls ⟨p, ss, evs, 0⟩ r) (h : ∀ i, (rowA rs (iterF rs ls i p)).op = 259) : r = evs ++ [.round] := by
  have R' := chain he rs.length (fun i _ => h i) (Nat.le_refl _) R
  refine run_stop_inv (by exact he) ?_ R'
  show (if (rowA rs (iterF rs ls rs.length p)).op = 259 then _ else _) = _
  rw [if_pos (h _), if_pos (by show (rs.length : Int) < (rs.length : Int) + 1; omega)]

theorem bTab_map (f : Int → Int) (x y z i : Int) : bTab (.t (f x) (f y) (f z)) i = f (bTab (.t x y z) i) := by
  simp only [bTab]; split
  · rfl
  · split <;> rfl
theorem bTab_bd {x y z M : Int} (x0 : 0 ≤ x) (x1 : x < M) (y0 : 0 ≤ y) (y1 : y < M) (z0 : 0 ≤ z) (z1 : z < M) (i : Int) : 0 ≤ bTab (.t x y z) i ∧ bTab (.t x y z) i < M := by
  simp only [bTab]; split
  · exact ⟨x0, x1⟩
  · split
    · exact ⟨y0, y1⟩
    · exact ⟨z0, z1⟩
theorem next_rel (W : WF N rs ls) {y : Int} (h0 : 0 ≤ y) (h1 : y < rs.length) (o1 : (rowA rs y).op ≠ 259) (o2 : (rowA rs y).op ≠ 267) (ss : List Int) :
    ∃ x' ss' x'', nextR ls (rowA rs y) y ss = (x', ss') ∧ nextR (plcF rs.length) (outF rs ls (rowA rs y)) y ss = (x'', ss') ∧ 0 ≤ x' ∧ x' < rs.length ∧ (x'' = x' ∨ x'' = iterF rs ls 8 x') := by
  have hl := W.last y h0 h1 o2
  have hg := W.rows _ (W.row h0 h1).1
  generalize rowA rs y = row at *
  have hs := shape hg
  have hn : ∀ x, row.op = x → isJumpF x = false → isJumpF row.op = false := fun x e h => by rw [e]; exact h
  cases hs with
  | jump k hb ho a0 a1 => exact absurd ho o1
  | ret k hb ho => exact absurd ho o2
  | con k hb ho a0 a1 k0 =>
    rw [out_num (hn _ ho rfl) hb]
    exact ⟨y + 1, _, y + 1, by rw [nextR, if_pos ho, hb], by rw [nextR, if_pos (by exact ho)], by omega, hl, .inl rfl⟩
  | mov k hb ho a0 a1 k0 k1 =>
    rw [out_num (hn _ ho rfl) hb]
    exact ⟨y + 1, _, y + 1, by rw [nextR, if_neg (by omega), if_pos ho, hb], by rw [nextR, if_neg (by show row.op ≠ _; omega), if_pos (by exact ho)], by omega, hl, .inl rfl⟩
  | sum k hb ho a0 a1 k0 k1 =>
    rw [out_num (hn _ ho rfl) hb]
    exact ⟨y + 1, _, y + 1, by rw [nextR, if_neg (by omega), if_neg (by omega), if_pos ho, hb], by rw [nextR, if_neg (by show row.op ≠ _; omega), if_neg (by show row.op ≠ _; omega), if_pos (by exact ho)], by omega, hl, .inl rfl⟩
  | tab x5 y5 z5 hb ho a0 a1 x0 x1 y0 y1 z0 z1 =>
    rw [out_tab (hn _ ho rfl) hb]
    refine ⟨ls.getD (bTab (.t x5 y5 z5) (if 2 < ss.getD row.a.toNat 0 then 2 else ss.getD row.a.toNat 0)).toNat 0, ss, threadF rs ls (bTab (.t x5 y5 z5) (if 2 < ss.getD row.a.toNat 0 then 2 else ss.getD row.a.toNat 0)), ?_, ?_, ?_, ?_, .inr rfl⟩
    · rw [nextR, if_neg (by omega), if_neg (by omega), if_neg (by omega), if_pos ho, hb]
    · rw [nextR, if_neg (by show row.op ≠ _; omega), if_neg (by show row.op ≠ _; omega), if_neg (by show row.op ≠ _; omega), if_pos (by exact ho)]
      show ((plcF rs.length).getD (bTab (.t (threadF rs ls x5) (threadF rs ls y5) (threadF rs ls z5)) (if 2 < ss.getD row.a.toNat 0 then 2 else ss.getD row.a.toNat 0)).toNat 0, ss) = _
      rw [bTab_map]
      have hb := bTab_bd x0 x1 y0 y1 z0 z1 (if 2 < ss.getD row.a.toNat 0 then 2 else ss.getD row.a.toNat 0)
      have ht := thread_bd W hb.1 hb.2
      rw [plc_at ht.1 ht.2]
    · have hb := bTab_bd x0 x1 y0 y1 z0 z1 (if 2 < ss.getD row.a.toNat 0 then 2 else ss.getD row.a.toNat 0)
      exact (W.lab _ hb.1 hb.2).1
    · have hb := bTab_bd x0 x1 y0 y1 z0 z1 (if 2 < ss.getD row.a.toNat 0 then 2 else ss.getD row.a.toNat 0)
      exact (W.lab _ hb.1 hb.2).2
  | cond k hb q1 q2 q3 q4 q5 q6 a0 a1 k0 k1 hc =>
    rw [out_jump (cond_jump hg q1 q2 q3 q4 q5 q6) hb]
    have hlab := W.lab _ a0 a1
    have ht := thread_bd W a0 a1
    cases hd : doneF row.op k row.c ss with
    | true =>
      refine ⟨ls.getD row.a.toNat 0, ss, threadF rs ls row.a, ?_, ?_, hlab.1, hlab.2, .inr rfl⟩
      · rw [nextR, if_neg q3, if_neg q4, if_neg q5, if_neg q6, hb]; exact if_pos hd
      · rw [nextR, if_neg (by exact q3), if_neg (by exact q4), if_neg (by exact q5), if_neg (by exact q6)]
        refine (if_pos (by exact hd)).trans ?_
        show ((plcF rs.length).getD (threadF rs ls row.a).toNat 0, ss) = _
        rw [plc_at ht.1 ht.2]
    | false =>
      refine ⟨y + 1, ss, y + 1, ?_, ?_, by omega, hl, .inl rfl⟩
      · rw [nextR, if_neg q3, if_neg q4, if_neg q5, if_neg q6, hb]; exact if_neg (Bool.eq_false_iff.mp hd)
      · rw [nextR, if_neg (by exact q3), if_neg (by exact q4), if_neg (by exact q5), if_neg (by exact q6)]
        exact if_neg (Bool.eq_false_iff.mp hd)

theorem run_agree (W : WF N rs ls) : ∀ (m : Nat) (p q : Int) (ss : List Int) (evs r1 r2 : List Ev), 24 - evs.length ≤ m → 0 ≤ p → p < rs.length → (q = p ∨ q = iterF rs ls 8 p) → Run rs ls ⟨p, ss, evs, 0⟩ r1 → Run (madeF rs ls) (plcF rs.length) ⟨q, ss, evs, 0⟩ r2 → r1 = r2 := by
  intro m
  induction m with
  | zero =>
    intro p q ss evs r1 r2 hm _ _ _ R1 R2
    rw [run_full_inv (by show ¬ evs.length < 24; omega) R1, run_full_inv (by show ¬ evs.length < 24; omega) R2]
  | succ m ih =>
    intro p q ss evs r1 r2 hm p0 p1 hq R1 R2
    by_cases he : evs.length < 24
    · have hqb : 0 ≤ q ∧ q < rs.length := by
        rcases hq with rfl | rfl
        · exact ⟨p0, p1⟩
        · exact W.iter 8 p0 p1
      have hqi : ∃ j, q = iterF rs ls j p := by
        rcases hq with rfl | rfl
        · exact ⟨0, rfl⟩
        · exact ⟨8, rfl⟩
      obtain ⟨j, hj⟩ := hqi
      have Wm := made_wf W
      have hml := made_len rs ls
      have opm : ∀ i, (rowA (madeF rs ls) (iterF (madeF rs ls) (plcF rs.length) i q)).op = (rowA rs (iterF rs ls (j + 9 * i) p)).op := by
        intro i
        rw [made_iter W i hqb.1 hqb.2]
        have hb := W.iter (9 * i) hqb.1 hqb.2
        rw [made_row hb.1 hb.2, out_op, hj, iter_add]
      by_cases hr : ∃ i, (rowA rs (iterF rs ls i p)).op ≠ 259
      · obtain ⟨i, hi⟩ := hr
        obtain ⟨i1, R1'⟩ := run_end W p0 p1 he R1 hi
        have key : iterF rs ls (j + 9 * i) p = iterF rs ls i p := by
          rw [show j + 9 * i = i + (j + 8 * i) by omega, iter_add, iter_fix hi]
        have hi2 : (rowA (madeF rs ls) (iterF (madeF rs ls) (plcF rs.length) i q)).op ≠ 259 := by rw [opm, key]; exact hi
        obtain ⟨i2, R2'⟩ := run_end Wm hqb.1 (by rw [hml]; exact hqb.2) he R2 hi2
        rw [made_iter W i hqb.1 hqb.2, hj, ← iter_add, key] at R2'
        have hyb := W.iter i p0 p1
        generalize iterF rs ls i p = y at *
        have hmr := made_row (ls := ls) hyb.1 hyb.2
        by_cases h267 : (rowA rs y).op = 267
        · rw [run_stop_inv (r' := evs ++ [.at y ss]) (by exact he) (by
            show (if (rowA rs y).op = 259 then _ else _) = _
            rw [if_neg hi, if_pos h267]) R1']
          rw [run_stop_inv (r' := evs ++ [.at y ss]) (by exact he) (by
            show (if (rowA (madeF rs ls) y).op = 259 then _ else _) = _
            rw [hmr, out_op, if_neg hi, if_pos h267]) R2']
        · obtain ⟨x', ss', x'', n1, n2, b0, b1, hx⟩ := next_rel W hyb.1 hyb.2 hi h267 ss
          have R1'' := run_next_inv (s' := ⟨x', ss', evs ++ [.at y ss], 0⟩) (by exact he) (by
            show (if (rowA rs y).op = 259 then _ else _) = _
            rw [if_neg hi, if_neg h267, n1]) R1'
          have R2'' := run_next_inv (s' := ⟨x'', ss', evs ++ [.at y ss], 0⟩) (by exact he) (by
            show (if (rowA (madeF rs ls) y).op = 259 then _ else _) = _
            rw [hmr, out_op, if_neg hi, if_neg h267, n2]) R2'
          exact ih x' x'' ss' _ r1 r2 (by rw [List.length_append, List.length_singleton]; omega) b0 b1 hx R1'' R2''
      · have hall : ∀ i, (rowA rs (iterF rs ls i p)).op = 259 := fun i => Classical.byContradiction fun hn => hr ⟨i, hn⟩
        rw [run_round he R1 hall, run_round he R2 fun i => by rw [opm]; exact hall _]
    · rw [run_full_inv (by exact he) R1, run_full_inv (by exact he) R2]
end
end Mine
end

section
open PySem PySem.W PyProof.Rows PySem.Calls PySem.Spec PyProof.Rows.LCg
namespace Mine

section
variable {prog : Program} {w : World} {A : Around} {E : Value → Shared → Prop} {s : Shared} {h₀ : Heap} {L : Addr} {m : Str → Option Value} {env : Env}
abbrev StepT (prog : Program) (w : World) (A : Around) (h₀ : Heap) (L : Addr) (m : Str → Option Value) (env : Env) (elt : Expr) (x : Str) (scope : Scope) (cl : List (Str × Addr)) (s : Shared) (S : Led → Prop) (nw : Led) (ys : List Value) (v : Value) (post : Value → Led → Prop) : Prop :=
  ∀ I oI C oC D m₂ h tk (E' : Value → Shared → Prop), NsObj oC m₂ → m₂ x = some v → Fr h₀ L h m → News h₀ L h ((I, oI) :: (C, oC) :: (D, lst ys) :: nw) → Off3 I C D nw → ((@Ne Nat I C) ∧ (@Ne Nat I D) ∧ (@Ne Nat C D)) →
    wpAny (model prog w) A (eval elt (compEnvC scope cl C env)) (CompEnd h₀ L m { s with heap := h, toks := tk } I oI C oC D (lst ys) S post) E' { s with heap := h, toks := tk }

theorem comp_ints {elt : Expr} {x : Str} {scope : Scope} {cl : List (Str × Addr)} {S : Led → Prop} {P : Nat → Value → Prop} {Fin : List Value → Led → Prop} {n : Nat} {nw : Led} (R : Int → Prop)
    (step : ∀ i v ys, i < n → P i v → StepT prog w A h₀ L m env elt x scope cl s S nw ys v (fun y news' => news' = nw ∧ ∃ z t, y = .int z t ∧ R z))
    (done : ∀ ys (ls : List Int), ls.length = n → IntsAre ys ls → (∀ v ∈ ls, R v) → Fin ys nw) : CompRest prog w A h₀ L m env elt x scope cl s S P Fin n 0 [] nw := by
  refine comp_ind n (fun k ys nw' => nw' = nw ∧ ∃ ls : List Int, ls.length + k = n ∧ IntsAre ys ls ∧ ∀ v ∈ ls, R v) ?_ ?_ n 0 [] nw rfl ⟨rfl, [], by simp, .nil, fun _ h => nomatch h⟩
  · rintro ys nw' ⟨rfl, ls, h1, h2, h3⟩
    exact done ys ls (by omega) h2 h3
  · rintro k i ys nw' v I oI C oC D m₂ h tk E' ⟨rfl, ls, h1, h2, h3⟩ hn hP hns hx F N off ne
    refine wpAny_mono (step i v ys (by omega) hP I oI C oC D m₂ h tk E' hns hx F N off ne) (fun y s₂ q => ?_) fun _ _ e => e
    obtain ⟨h', tk', news', e, F', N', o', S', rfl, z, t, rfl, hz⟩ := q
    refine ⟨h', tk', _, e, F', N', o', S', rfl, ls ++ [z], by rw [List.length_append, List.length_singleton]; omega, h2.append (.cons _ _ .nil), fun u hu => ?_⟩
    rcases List.mem_append.mp hu with hu | hu
    · exact h3 u hu
    · rw [List.mem_singleton.mp hu]; exact hz
theorem comp_rows {elt : Expr} {x : Str} {scope : Scope} {cl : List (Str × Addr)} {S : Led → Prop} {P : Nat → Value → Prop} {Fin : List Value → Led → Prop} {n : Nat} {nw : Led} (R : Row → Prop)
    (step : ∀ i v ys tl, i < n → P i v → StepT prog w A h₀ L m env elt x scope cl s S (nw ++ tl) ys v (fun y news' => ∃ add row, news' = nw ++ (tl ++ add) ∧ R row ∧ DatIn add y row.dat))
    (done : ∀ ys (rs : List Row) tl, rs.length = n → DatAll tl ys (rs.map Row.dat) → (∀ r ∈ rs, R r) → Fin ys (nw ++ tl)) : CompRest prog w A h₀ L m env elt x scope cl s S P Fin n 0 [] nw := by
  refine comp_ind n (fun k ys nw' => ∃ tl, nw' = nw ++ tl ∧ ∃ rs : List Row, rs.length + k = n ∧ DatAll tl ys (rs.map Row.dat) ∧ ∀ r ∈ rs, R r) ?_ ?_ n 0 [] nw rfl ⟨[], by simp, [], by simp, .nil, fun _ h => nomatch h⟩
  · rintro ys nw' ⟨tl, rfl, rs, h1, h2, h3⟩
    exact done ys rs tl (by omega) h2 h3
  · rintro k i ys nw' v I oI C oC D m₂ h tk E' ⟨tl, rfl, rs, h1, h2, h3⟩ hn hP hns hx F N off ne
    refine wpAny_mono (step i v ys tl (by omega) hP I oI C oC D m₂ h tk E' hns hx F N off ne) (fun y s₂ q => ?_) fun _ _ e => e
    obtain ⟨h', tk', news', e, F', N', o', S', add, row, rfl, hr, hd⟩ := q
    refine ⟨h', tk', _, e, F', N', o', S', tl ++ add, rfl, rs ++ [row], by rw [List.length_append, List.length_singleton]; omega, ?_, fun u hu => ?_⟩
    · rw [List.map_append]
      exact (DatAll.mono (fun p hp => List.mem_append.mpr (.inl hp)) h2).append (.cons (DatIn.mono (fun p hp => List.mem_append.mpr (.inr hp)) hd) .nil)
    · rcases List.mem_append.mp hu with hu | hu
      · exact h3 u hu
      · rw [List.mem_singleton.mp hu]; exact hr
theorem comp_fun {elt : Expr} {x : Str} {scope : Scope} {cl : List (Str × Addr)} {S : Led → Prop} {P : Nat → Value → Prop} {Fin : List Value → Led → Prop} {n : Nat} {nw : Led} (g : Nat → Value)
    (step : ∀ i v ys, i < n → P i v → StepT prog w A h₀ L m env elt x scope cl s S nw ys v (fun y news' => news' = nw ∧ y = g i))
    (done : Fin ((List.range n).map g) nw) : CompRest prog w A h₀ L m env elt x scope cl s S P Fin n 0 [] nw := by
  refine comp_ind n (fun k ys nw' => nw' = nw ∧ ∃ i, i + k = n ∧ ys = (List.range i).map g) ?_ ?_ n 0 [] nw rfl ⟨rfl, 0, by simp, rfl⟩
  · rintro ys nw' ⟨rfl, i, h1, rfl⟩
    rw [show i = n by omega]; exact done
  · rintro k i ys nw' v I oI C oC D m₂ h tk E' ⟨rfl, j, h1, rfl⟩ hn hP hns hx F N off ne
    refine wpAny_mono (step i v _ (by omega) hP I oI C oC D m₂ h tk E' hns hx F N off ne) (fun y s₂ q => ?_) fun _ _ e => e
    obtain ⟨h', tk', news', e, F', N', o', S', rfl, rfl⟩ := q
    refine ⟨h', tk', _, e, F', N', o', S', rfl, j + 1, by omega, ?_⟩
    rw [List.range_succ, List.map_append, show j = i by omega]; rfl
end
theorem bools_lay : ∀ bs : List Bool, PyData.canLayAll0 (bs.map PyData.bool) = true ∧ PyData.depthAll (bs.map PyData.bool) = 0 ∧ PyData.eqvAll (bs.map PyData.bool) (bs.map PyData.bool) = true
  | [] => ⟨rfl, rfl, rfl⟩
  | b :: r => by
    obtain ⟨a1, a2, a3⟩ := bools_lay r
    refine ⟨?_, ?_, ?_⟩
    · simp only [List.map_cons, PyData.canLayAll0, a1, PyData.canLay0, Bool.and_self]
    · simp only [List.map_cons, PyData.depthAll, a2, PyData.depth]; rfl
    · simp only [List.map_cons, PyData.eqvAll, a3, Bool.and_true]; cases b <;> rfl
section
variable {prog : Program} {w : World} {A : Around} {E : Value → Shared → Prop} {s : Shared} {h₀ : Heap} {L : Addr}
theorem bools_reads {h : Heap} : ∀ bs : List Bool, ∃ as, ReadsAll h (bs.map Value.bool) (bs.map PyData.bool) as
  | [] => ⟨_, .nil⟩
  | b :: r => by
    obtain ⟨as, q⟩ := bools_reads (h := h) r
    exact ⟨_, ReadsAll.cons (Reads.bool b) q⟩
theorem bools_eq {a b : Addr} {bs : List Bool} {n k : Nat} {news : Led} {Q : Value → Shared → Prop} (N : News h₀ L s.heap news) (ha : (a, listOf (bs.map Value.bool).toArray n) ∈ news) (hb : (b, listOf (bs.map Value.bool).toArray k) ∈ news) (hu : A.units + 64 < cLine) (h : Q (.bool true) s) :
    wpAny (model prog w) A (compareOp .Eq (.ref a) (.ref b)) Q E s := by
  obtain ⟨as, q⟩ := bools_reads (h := s.heap) bs
  obtain ⟨l1, l2, l3⟩ := bools_lay bs
  have e : PyData.eqv (.list (bs.map PyData.bool)) (.list (bs.map PyData.bool)) = true := by simp only [PyData.eqv]; exact l3
  have sh : SeqAt.shaped (.list (bs.map PyData.bool)) = true := by
    unfold SeqAt.shaped
    rw [show PyData.canLay0 (.list (bs.map PyData.bool)) = true by simp only [PyData.canLay0]; exact l1, Bool.true_and]
    refine decide_eq_true ?_
    simp only [PyData.depth, l2]; decide
  exact eq_dataH (reads_list_at (N.get ha) rfl rfl (by simpa using q)) (reads_list_at (N.get hb) rfl rfl (by simpa using q)) sh sh hu (by rw [e]; exact h)
end
theorem bv_ok (b : Bv) (n : Nat) : kqdOk (n + 1) b.dat = true := by cases b <;> simp [Bv.dat, kqdOk]
theorem row_ok (r : Row) (n : Nat) : kqdOk (n + 2) r.dat = true := by
  simp only [Row.dat, kqdOk, List.all_cons, List.all_nil, Bool.and_true, Bool.true_and]
  exact bv_ok r.b n
theorem rows_ok (rs : List Row) (n : Nat) : kqdOk (n + 3) (.list (rs.map Row.dat)) = true := by
  simp only [kqdOk, List.all_eq_true, List.mem_map]
  rintro d ⟨r, _, rfl⟩
  exact row_ok r n
theorem ints_ok (ls : List Int) (n : Nat) : kqdOk (n + 1) (.list (ls.map Dat.int)) = true := by
  simp only [kqdOk, List.all_eq_true, List.mem_map]
  rintro d ⟨r, _, rfl⟩
  cases n <;> rfl
theorem ev_ok (e : Ev) (n : Nat) : kqdOk (n + 2) e.dat = true := by
  rcases e with ⟨x, ss⟩ | _
  · simp [Ev.dat, kqdOk]
  · simp only [Ev.dat, kqdOk, List.all_cons, List.all_nil, Bool.and_true]
    decide +kernel
theorem evs_ok (es : List Ev) (n : Nat) : kqdOk (n + 3) (.list (es.map Ev.dat)) = true := by
  simp only [kqdOk, List.all_eq_true, List.mem_map]
  rintro d ⟨r, _, rfl⟩
  exact ev_ok r n
theorem kept_ok (rs : List Row) (ls : List Int) : kqdOk 8 (.tuple [.list (rs.map Row.dat), .list (ls.map Dat.int)]) = true := by
  rw [kqdOk]
  simp only [List.all_cons, List.all_nil, Bool.and_true, Bool.and_eq_true]
  exact ⟨rows_ok rs 4, ints_ok ls 6⟩
end Mine
end

section
open PySem PySem.W PyProof.Rows PySem.Calls PySem.Spec PyProof.Rows.LCg
namespace Mine

local macro_rules | `(tactic| walk_at $s:str) => if ["CompRest", "CompEnd", "FinE", "FinA", "eval ListComp", "exec Assign cons ListComp", "CompSrc", "binaryOp Add ref ref", "compareOp NotEq ref ref", "compareOp Eq ref ref"].contains (Lean.TSyntax.getString s) then `(tactic| refine Hold.out ?_) else Lean.Macro.throwUnsupported
local macro_rules | `(tactic| walk_at "call type:list") => `(tactic| ((rename Hold True => hMk9); refine Hold.out ?_))
local macro_rules | `(tactic| walk_at "call ref") => `(tactic| (k_here; (fail_if_success (with_reducible show wpAny _ _ (call (Value.ref 40) _) _ _ _)); refine Hold.out ?_))



theorem rows_end {h₀ h' : Heap} {L : Addr} {m : Str → Option Value} {s₁ : Shared} {I C D : Addr} {oI oC : Obj} {ys : List Value} {nw tl tl' : Led} {row : Row} {y : Value} {tk : Nat} (F : Fr h₀ L h' m) (N : News h₀ L h' (((I, oI) :: (C, oC) :: (D, lst ys) :: (nw ++ tl)) ++ tl')) (off : Off3 I C D (nw ++ tl))
    (hl : ∀ q ∈ (I, oI) :: (C, oC) :: (D, lst ys) :: (nw ++ tl), ∀ p ∈ tl', q.1 < p.1) (hr : RowG 4 row) (hd : DatIn tl' y row.dat) :
    CompEnd h₀ L m s₁ I oI C oC D (lst ys) (fun _ => True) (fun y news' => ∃ add row, news' = nw ++ (tl ++ add) ∧ RowG 4 row ∧ DatIn add y row.dat) y { s₁ with heap := h', toks := tk } := by
  refine ⟨_, _, nw ++ (tl ++ tl'), rfl, F, cb_drop N ?_, Off3.of ?_, trivial, tl', row, rfl, hr, hd⟩
  · intro p hp
    simp only [List.mem_cons, List.mem_append] at hp ⊢
    rcases hp with h | h | h | h | h | h <;> simp [h]
  · intro p hp
    rw [← List.append_assoc] at hp
    rcases List.mem_append.mp hp with hp | hp
    · exact Off3.mem off p hp
    · exact ⟨Nat.ne_of_gt (hl _ (.head _) p hp), Nat.ne_of_gt (hl _ (.tail _ (.head _)) p hp), Nat.ne_of_gt (hl _ (.tail _ (.tail _ (.head _))) p hp)⟩

abbrev retR : Row := ⟨267, 0, .n 1, 0⟩
theorem wf_law {M : Int} {rs : List Row} {ls : List Int} (h0 : 4 ≤ M) (h1 : M ≤ 12) (hl : rs.length = (M - 1 - 0).toNat) (hr : ∀ r ∈ rs, RowG 4 r) (hls : ls.length = 4) (hv : ∀ v ∈ ls, 0 ≤ v ∧ v < M) : WF 4 (rs ++ [retR]) ls ∧ ((rs ++ [retR]).length : Int) = M := by
  have hlen : (rs ++ [retR]).length = rs.length + 1 := by simp
  have hM : ((rs ++ [retR]).length : Int) = M := by rw [hlen]; omega
  refine ⟨⟨by omega, by omega, ?_, by omega, ?_, by omega, ?_⟩, hM⟩
  · intro r h
    rcases List.mem_append.mp h with h | h
    · exact hr r h
    · rw [List.mem_singleton.mp h]; exact .inr (.inr (.inr (.inr (.inl rfl))))
  · intro k k0 k1
    have hk : k.toNat < ls.length := by omega
    have e : ls.getD k.toNat 0 = ls[k.toNat] := by simp [hk]
    rw [e, hM]
    exact hv _ (List.getElem_mem hk)
  · intro k k0 k1 ho
    rw [hM] at k1 ⊢
    rcases Int.lt_or_le (k + 1) M with h | h
    · exact h
    · exfalso
      have e : k.toNat = rs.length := by omega
      apply ho
      rw [e]
      simp
theorem rows_dat {tl nw : Led} {ys : List Value} {rs : List Row} {RT : Addr} {n : Nat} {t1 t2 t3 t4 : Tok} (h : DatAll tl ys (rs.map Row.dat)) (hs : ∀ p ∈ tl, p ∈ nw) (hm : (RT, tupO [.int 267 t1, .int 0 t2, .int 1 t3, .int 0 t4] n) ∈ nw) :
    DatAll nw (ys ++ [.ref RT]) ((rs ++ [retR]).map Row.dat) := by
  rw [List.map_append]
  exact (DatAll.mono hs h).append (.cons (DatIn.tuple (vs := [_, _, _, _]) hm (.cons (.int _ _) (.cons (.int _ _) (.cons (.int _ _) (.cons (.int _ _) .nil))))) .nil)

theorem pack1 {g h : Heap} {L cM cS RL LL BG : Addr} {oM wS : Obj} {nwX : Led} {ys lys bs : List Value} {ds : List Dat} {k1 k2 k3 : Nat} (N : News g L h nwX) (c1 : (cM, oM) ∈ nwX) (c2 : (cS, wS) ∈ nwX) (m1 : (RL, listOf ys.toArray k1) ∈ nwX) (m2 : (LL, listOf lys.toArray k2) ∈ nwX) (m3 : (BG, listOf bs.toArray k3) ∈ nwX) (hd : DatAll nwX ys ds) :
    ∃ nw, News g L h ((cM, oM) :: (cS, wS) :: nw) ∧ (RL, listOf ys.toArray k1) ∈ nw ∧ (LL, listOf lys.toArray k2) ∈ nw ∧ (BG, listOf bs.toArray k3) ∈ nw ∧ DatAll nw ys ds :=
  ⟨nwX, List.forall_mem_cons.mpr ⟨N _ c1, List.forall_mem_cons.mpr ⟨N _ c2, N⟩⟩, m1, m2, m3, hd⟩

theorem pack2 {g h : Heap} {L cM cS RL LL BG MD KR KL KK : Addr} {oM wS : Obj} {nwX : Led} {ys lys bs us : List Value} {ds es : List Dat} {k1 k2 k3 k4 k5 k6 k7 : Nat} (N : News g L h nwX) (c1 : (cM, oM) ∈ nwX) (c2 : (cS, wS) ∈ nwX) (m1 : (RL, listOf ys.toArray k1) ∈ nwX) (m2 : (LL, listOf lys.toArray k2) ∈ nwX) (m3 : (BG, listOf bs.toArray k3) ∈ nwX) (m4 : (MD, listOf us.toArray k4) ∈ nwX)
    (m5 : (KR, listOf ys.toArray k5) ∈ nwX) (m6 : (KL, listOf lys.toArray k6) ∈ nwX) (m7 : (KK, tupO [.ref KR, .ref KL] k7) ∈ nwX) (hd : DatAll nwX ys ds) (he : DatAll nwX us es) :
    ∃ nw, News g L h ((cM, oM) :: (cS, wS) :: nw) ∧ (RL, listOf ys.toArray k1) ∈ nw ∧ (LL, listOf lys.toArray k2) ∈ nw ∧ (BG, listOf bs.toArray k3) ∈ nw ∧ (MD, listOf us.toArray k4) ∈ nw ∧ (KR, listOf ys.toArray k5) ∈ nw ∧ (KL, listOf lys.toArray k6) ∈ nw ∧ (KK, tupO [.ref KR, .ref KL] k7) ∈ nw ∧ DatAll nw ys ds ∧ DatAll nw us es :=
  ⟨nwX, List.forall_mem_cons.mpr ⟨N _ c1, List.forall_mem_cons.mpr ⟨N _ c2, N⟩⟩, m1, m2, m3, m4, m5, m6, m7, hd, he⟩

theorem pack3 {g h : Heap} {L cM cS RL LL BG MD EA : Addr} {oM wS : Obj} {nwX : Led} {ys lys bs us es : List Value} {ds as e : List Dat} {k1 k2 k3 k4 k5 : Nat} (N : News g L h nwX) (c1 : (cM, oM) ∈ nwX) (c2 : (cS, wS) ∈ nwX) (m1 : (RL, listOf ys.toArray k1) ∈ nwX) (m2 : (LL, listOf lys.toArray k2) ∈ nwX) (m3 : (BG, listOf bs.toArray k3) ∈ nwX) (m4 : (MD, listOf us.toArray k4) ∈ nwX)
    (m5 : (EA, listOf es.toArray k5) ∈ nwX) (hd : DatAll nwX ys ds) (ha : DatAll nwX us as) (he : DatAll nwX es e) :
    ∃ nw, News g L h ((cM, oM) :: (cS, wS) :: nw) ∧ (RL, listOf ys.toArray k1) ∈ nw ∧ (LL, listOf lys.toArray k2) ∈ nw ∧ (BG, listOf bs.toArray k3) ∈ nw ∧ (MD, listOf us.toArray k4) ∈ nw ∧ (EA, listOf es.toArray k5) ∈ nw ∧ DatAll nw ys ds ∧ DatAll nw us as ∧ DatAll nw es e :=
  ⟨nwX, List.forall_mem_cons.mpr ⟨N _ c1, List.forall_mem_cons.mpr ⟨N _ c2, N⟩⟩, m1, m2, m3, m4, m5, hd, ha, he⟩
theorem rangeKs_plc (n : Nat) : rangeKs 0 n = plcF n := by
  simp [rangeKs, plcF]
theorem row_get {nw : Led} {us : List Value} {rs : List Row} (h : DatAll nw us (rs.map Row.dat)) {i : Nat} {v : Value} (hv : us.toArray[i]? = some v) :
    ∃ a n t1 t2 vb t3, v = .ref a ∧ (a, tupO [.int (rowA rs i).op t1, .int (rowA rs i).a t2, vb, .int (rowA rs i).c t3] n) ∈ nw ∧ rowA rs i ∈ rs ∧ i < rs.length := by
  rw [List.getElem?_toArray] at hv
  have hlen := h.length
  rw [List.length_map] at hlen
  have hi : i < rs.length := by
    have := (List.getElem?_eq_some_iff.mp hv).1
    omega
  obtain ⟨v', hv', hd⟩ := h.get (k := i) (by rw [List.length_map]; exact hi)
  rw [hv] at hv'
  cases hv'
  rw [List.getElem_map] at hd
  have e : rowA rs (i : Int) = rs[i] := by simp [rowA, hi]
  rw [← e] at hd
  obtain ⟨a, n, t1, t2, vb, t3, rfl, hm, _⟩ := row_inv hd
  exact ⟨a, n, t1, t2, vb, t3, rfl, hm, e ▸ List.getElem_mem hi, hi⟩




theorem nn3 {a b c : Int} (ha : 0 ≤ a) (hb : 0 ≤ b) (hc : 0 ≤ c) : ∀ i : Nat, 0 ≤ [a, b, c].getD i 0
  | 0 => ha
  | 1 => hb
  | 2 => hc
  | _ + 3 => by simp

theorem law_holds : PySem.Challenge.rw_nm0108_01.Holds := hd (by
  k_go0
  (all_goals try k_fold)
  k_steps
  refine Hold.mk ?_
  k_here
  k_dflt (refine LCg.Assign_ListComp_U (F₀ := by k_asm) (by rfl) (by with_unfolding_all rfl) (by with_unfolding_all rfl) (by decide) (by rfl) (by decide) (by rfl) (by rfl) (by rfl) ?_)
  k_steps
  refine Hold.mk ?_
  k_here
  k_dflt (refine LCg.CompSrc.range (by rfl) (by k_asm) (by k_asm) (by assumption) (by first | decide | exact small_one (by omega) (by omega) (by omega) (by omega)) (by first | exact rangeSize_nat _ _ | rfl) (by first | exact Nat.le_of_ble_eq_true rfl | (rw [PySem.sizeLine_eq]; omega)) ?_)
  intro gB
  rename_i wS lf rt N0 X0 qk0 ek0 t9 h9 tk9 uu tkA hb6 tkB BG hb5 lBG DT hb4 lDT hb3 hb2 oM dM hb1 FB NB tkC hb0 tB uB vB aB3 aB2 aB1 aB0
  rename List Int => ns
  rename Shared => s1
  rename IntsAre _ _ => hI
  obtain ⟨X, hX⟩ : ∃ X, X = (if cellAt ns 0 0 < 0 then -cellAt ns 0 0 else cellAt ns 0 0) := ⟨_, rfl⟩
  have hM := fm (x := X) (k := 9) (by decide)
  have hb1 := fm (x := X.fdiv 9) (k := 3) (by decide)
  have hb2 := fm (x := X.fdiv 27) (k := 3) (by decide)
  have hb3 := fm (x := X.fdiv 81) (k := 3) (by decide)
  simp only [← hX] at *
  refine (comp_ints (fun z => 0 ≤ z ∧ z < 4 + X.fmod 9) ?stepA ?doneA)
  case stepA =>
    rintro i v ys hin ⟨t, rfl⟩ I oI C oC D m₂ h tk E' hns hx F N off ne
    k_steps
    · exact absurd (by assumption : (13 : Int) ^ (0 + (i : Int)).toNat = 0) (Int.ne_of_gt (Int.pow_pos (by decide)))
    · exact Hold.mk (CompEnd.intro (by assumption) (by assumption) _ (fun _ h => h) off trivial ⟨rfl, _, _, rfl, fm (by omega)⟩)
  case doneA =>
    intro lys ls hlen hys hls
    have hly : lys.length = 4 := by rw [hys.length, hlen]; rfl
    unfold FinA
    intro LL h1 tk1 F1 N1 _
    k_steps
    refine Hold.mk ?_
    k_here
    k_dflt (refine LCg.ListComp_U (F₀ := by k_asm) (by with_unfolding_all rfl) (by decide) (by rfl) (by decide) (by rfl) ?_)
    k_steps
    refine Hold.mk ?_
    k_here
    k_dflt (refine LCg.CompSrc.range (by rfl) (by k_asm) (by k_asm) (by assumption) (by first | decide | exact small_one (by omega) (by omega) (by omega) (by omega)) (by first | exact rangeSize_nat _ _ | rfl) (by first | exact Nat.le_of_ble_eq_true rfl | (rw [PySem.sizeLine_eq]; omega)) ?_)
    intro gC
    refine comp_rows (RowG 4) ?stepB ?doneB
    case stepB =>
      rintro i v ys tl hin ⟨t, rfl⟩ I oI C oC D m₂ h tk E' hns hx F N off ne
      k_steps
      refine Hold.mk ?_
      k_here
      k_dflt (refine' conT_use (by k_asm) (by k_asm) (by k_asm) (by k_asm) (by k_asm) (by first | exact rfl | assumption) (law_row_con _ _) True.intro (by ktr_room) (by ktr_units) ?_)
      rintro r' tl' h' tk' F' N' hl' ⟨row', hrow', hdat'⟩
      k_steps
      exact Hold.mk (rows_end (by assumption) (by assumption) off (by assumption) (by assumption) (by assumption))
    case doneB =>
      intro ys rs tl hrl hrd hrg
      have hyl : ys.length ≤ 11 := by
        have := hrd.length
        rw [List.length_map] at this
        omega
      unfold FinE
      intro DD h2 tk2 F2 N2 _
      k_steps
      refine Hold.mk ?_
      k_here
      k_dflt (refine' add_led (by k_asm) (by k_asm) (by k_mem) (by k_mem) (by (rw [PySem.sizeLine_eq]; simp only [List.length_cons, List.length_nil]; omega)) ?_)
      intro RL hh1 FR NR lR
      rename_i RT hh3 lRT lit hh2 FQ NQ lQ
      obtain ⟨W, hWM⟩ := wf_law (by omega) (by omega) hrl hrg (by rw [hlen]; rfl) hls
      obtain ⟨nw, N5, mR, mL, mB, hD5⟩ := pack1 (cM := s1.heap.objs.size + 1 + 1) (oM := oM) (cS := s1.heap.objs.size + 1) (wS := wS) (RL := RL) (LL := LL) (BG := BG) NR (by k_mem) (by k_mem) (by k_mem) (by k_mem) (by k_mem) (rows_dat hrd (fun p hp => .tail _ (.tail _ (.tail _ (.tail _ (List.mem_append.mpr (.inr hp)))))) (.tail _ (.tail _ (.head _))))
      clear NR NQ FQ lR lQ lRT
      have kMark := kdMark
      have hyl2 : (ys ++ [Value.ref RT]).length ≤ 12 := by simp; omega
      have mk1 : Hold True := Hold.mk trivial
      dsimp only
      k_steps
      refine Hold.mk ?_
      k_here
      k_dflt (refine' list_copyK (by k_asm) (by k_asm) (News.isList (by k_asm) (by k_mem)) ?_ (by (rw [List.size_toArray, PySem.sizeLine_eq]; omega)))
      intro KR ck1 hk1 FK1 NK1 lKR
      (try k_lt lKR)
      k_steps
      refine Hold.mk ?_
      k_here
      k_dflt (refine' list_copyK (by k_asm) (by k_asm) (News.isList (by k_asm) (by k_mem)) ?_ (by (rw [List.size_toArray, PySem.sizeLine_eq]; omega)))
      intro KL ck2 hk2 FK2 NK2 lKL
      (try k_lt lKL)
      rename Hold True => mk2
      clear mk2
      k_steps
      refine Hold.mk ?_
      k_dflt (refine' con_use ?k1 ?k2 ?k3 ?k4 ?k5 ?k6 (resolved_con _ _ _ _ _ ?kW) ?k7 ?k8 ?k9 ?kQ)
      (case kW => assumption)
      (case k1 => k_asm); (case k2 => k_asm); (case k3 => k_asm); (case k4 => k_asm); (case k5 => k_asm)
      (case k6 => first | exact rfl | assumption)
      (case k7 => exact ⟨⟨_, _, by k_mem, datAll_sub (by assumption) (by kqd_sub)⟩, ⟨_, _, by k_mem, by assumption⟩⟩)
      (case k8 => ktr_room)
      (case k9 => ktr_units)
      rename_i KK hk3 lKK hk4 FK NK
      rintro _ tl2 h3 tk3 F3 N3 hl3 ⟨MD, rfl, us3, n3, hm3, hd3⟩
      obtain ⟨nw2, N6, mR2, mL2, mB2, mM2, mKR, mKL, mKK, hD6, hM6⟩ := pack2 (cM := s1.heap.objs.size + 1 + 1) (oM := oM) (cS := s1.heap.objs.size + 1) (wS := wS) (RL := RL) (LL := LL) (BG := BG) (KR := KR) (KL := KL) (KK := KK) N3 (by k_mem) (by k_mem) (by k_mem) (by k_mem) (by k_mem) hm3 (by k_mem) (by k_mem) (by k_mem) (datAll_sub hD5 (by kqd_sub)) hd3
      clear N3 hm3 hd3 hl3 NK FK lKR lKL lKK
      dsimp only
      have hS6 := ints_dat (news := nw2) hys
      k_steps
      refine Hold.mk ?_
      k_dflt (refine' dat_ne_same ?zn ?za ?zb ?zc ?zd ?zq)
      (case zn => k_asm)
      (case za => exact DatIn.tuple (vs := [_, _]) (by k_mem) (.cons (.list (by k_mem) (datAll_sub hD6 (by kqd_sub))) (.cons (.list (by k_mem) (datAll_sub hS6 (by kqd_sub))) .nil)))
      (case zb => exact DatIn.tuple (vs := [_, _]) (by k_mem) (.cons (.list (by k_mem) (datAll_sub hD6 (by kqd_sub))) (.cons (.list (by k_mem) (datAll_sub hS6 (by kqd_sub))) .nil)))
      (case zc => exact kept_ok _ _)
      (case zd => ke_room)
      k_steps
      refine Hold.mk ?_
      k_dflt (refine' conV_use ?gk1 ?gk2 ?gk3 ?gk4 ?gk5 ?gk6 (are_goals_con _ _ _ _ _ _ ?gkW) ?gk7 ?gk8 ?gk9 ?gkQ)
      (case gkW => assumption)
      (case gk1 => k_asm); (case gk2 => k_asm); (case gk3 => k_asm); (case gk4 => k_asm); (case gk5 => k_asm)
      (case gk6 => first | exact rfl | assumption)
      (case gk7 => exact ⟨⟨_, _, by k_mem, datAll_sub hD6 (by kqd_sub)⟩, ⟨_, _, by k_mem, hys⟩, ⟨_, _, by k_mem, datAll_sub hM6 (by kqd_sub)⟩⟩)
      (case gk8 => ktr_room)
      (case gk9 => ktr_units)
      rintro _ h4 tk4 F4 N4 rfl
      dsimp only
      k_steps
      refine Hold.mk ?_
      rename_i TP hh8 lTP hh7 tk7 tu uu7 vu rgX keep7 PL pvs pc hh6 tk6 FP NP hIP lPL
      have hIP2 : IntsAre pvs (plcF (rs ++ [retR]).length) := by
        rw [← rangeKs_plc]
        have : (4 + X.fmod 9 - 0).toNat = (rs ++ [retR]).length := by omega
        rw [← this]; exact hIP
      k_dflt (refine' con_use ?a1 ?a2 ?a3 ?a4 ?a5 ?a6 (law_run_con _ _ _ _ _ _ [(X.fdiv 9).fmod 3, (X.fdiv 27).fmod 3, (X.fdiv 81).fmod 3] (made_wf W) rfl ?an) ?a7 ?a8 ?a9 ?aQ)
      (case an => exact nn3 hb1.1 hb2.1 hb3.1)
      (case a1 => k_asm); (case a2 => k_asm); (case a3 => k_asm); (case a4 => k_asm); (case a5 => k_asm)
      (case a6 => first | exact rfl | assumption)
      (case a7 => exact ⟨⟨_, _, by k_mem, datAll_sub hM6 (by kqd_sub)⟩, ⟨_, _, by k_mem, hIP2⟩, ⟨_, _, by k_mem, .cons _ _ (.cons _ _ (.cons _ _ .nil))⟩⟩)
      (case a8 => ktr_room)
      (case a9 => ktr_units)
      rintro _ tl5 h5 tk5 F5 N5 hl5 ⟨EA, ea, na, evs1, rfl, hmE, hdE, hrun1⟩
      obtain ⟨nw3, N7, mR3, mL3, mB3, mM3, mE3, hD7, hM7, hE7⟩ := pack3 (cM := s1.heap.objs.size + 1 + 1) (oM := oM) (cS := s1.heap.objs.size + 1) (wS := wS) (RL := RL) (LL := LL) (BG := BG) (MD := MD) (EA := EA) N5 (by k_mem) (by k_mem) (by k_mem) (by k_mem) (by k_mem) (by k_mem) hmE (datAll_sub hD6 (by kqd_sub)) (datAll_sub hM6 (by kqd_sub)) hdE
      clear N5 hmE hdE hl5 NP FP lPL lTP hIP
      dsimp only
      k_steps
      refine Hold.mk ?_
      k_dflt (refine' con_use ?b1 ?b2 ?b3 ?b4 ?b5 ?b6 (law_run_con _ _ _ _ _ _ [(X.fdiv 9).fmod 3, (X.fdiv 27).fmod 3, (X.fdiv 81).fmod 3] W rfl ?bn) ?b7 ?b8 ?b9 ?bQ)
      (case bn => exact nn3 hb1.1 hb2.1 hb3.1)
      (case b1 => k_asm); (case b2 => k_asm); (case b3 => k_asm); (case b4 => k_asm); (case b5 => k_asm)
      (case b6 => first | exact rfl | assumption)
      (case b7 => exact ⟨⟨_, _, by k_mem, datAll_sub hD7 (by kqd_sub)⟩, ⟨_, _, by k_mem, hys⟩, ⟨_, _, by k_mem, .cons _ _ (.cons _ _ (.cons _ _ .nil))⟩⟩)
      (case b8 => ktr_room)
      (case b9 => ktr_units)
      rintro _ tl6 h6 tk6 F6 N6 hl6 ⟨EB, eb, nb, evs2, rfl, hmB, hdB, hrun2⟩
      have hev : evs2 = evs1 := run_agree W 24 0 0 _ [] evs2 evs1 (by simp) (by decide) (by have := W.pos; omega) (.inl rfl) hrun2 hrun1
      subst hev
      k_dflt (refine' dat_ne_same ?yn ?ya ?yb ?yc ?yd ?yq)
      (case yn => k_asm)
      (case ya => exact DatIn.list (by k_mem) (datAll_sub hE7 (by kqd_sub)))
      (case yb => exact DatIn.list hmB hdB)
      (case yc => exact evs_ok _ 5)
      (case yd => ke_room)
      obtain ⟨nw4, N8, mR4, mL4, mB4, mM4, mE4, hD8, hM8, hE8⟩ := pack3 (cM := s1.heap.objs.size + 1 + 1) (oM := oM) (cS := s1.heap.objs.size + 1) (wS := wS) (RL := RL) (LL := LL) (BG := BG) (MD := MD) (EA := EA) N6 (by k_mem) (by k_mem) (by k_mem) (by k_mem) (by k_mem) (by k_mem) (by k_mem) (datAll_sub hD7 (by kqd_sub)) (datAll_sub hM7 (by kqd_sub)) (datAll_sub hE7 (by kqd_sub))
      clear N6 hmB hdB hl6 N7
      have hul : us3.length = (rs ++ [retR]).length := by
        have := hM8.length
        rw [this, List.length_map, List.length_map]
      have hul2 : (ys ++ [Value.ref RT]).length = (rs ++ [retR]).length := by
        have := hD8.length
        rw [this, List.length_map]
      have hul3 := W.le
      dsimp only
      k_steps
      refine Hold.mk ?_
      k_here
      k_dflt (refine LCg.ListComp_U (F₀ := by k_asm) (by with_unfolding_all rfl) (by decide) (by rfl) (by decide) (by rfl) ?_)
      k_steps
      refine Hold.mk ?_
      k_here
      k_dflt (refine LCg.CompSrc.ledger (by rfl) (by k_asm) (by k_asm) (by k_mem) (by (rw [List.size_toArray, PySem.sizeLine_eq]; omega)) ?_)
      intro gD
      refine comp_fun (fun i => .bool (isJumpF (rowA (rs ++ [retR]) (i : Int)).op)) ?stepC ?doneC
      case stepC =>
        intro i v ys5 hin hP I oI C oC D m₂ h tk E' hns hx F N off ne
        obtain ⟨ra, rn, t1, t2, vb, t3, rfl, hmem, hrin, hir⟩ := row_get (rs := madeF (rs ++ [retR]) ls) hM8 hP
        rw [made_len] at hir
        have hop : (rowA (madeF (rs ++ [retR]) ls) (i : Int)).op = (rowA (rs ++ [retR]) (i : Int)).op := by
          rw [made_row (by omega) (by omega), out_op]
        rw [hop] at hmem
        k_steps
        refine Hold.mk ?_
        k_here
        k_dflt (refine' conV_use (by k_asm) (by k_asm) (by k_asm) (by k_asm) (by k_asm) (by first | exact rfl | assumption) (is_jump_con _ _) True.intro (by ktr_room) (by ktr_units) ?_)
        rintro _ h' tk' F' N' rfl
        k_steps
        exact Hold.mk (CompEnd.intro (by assumption) (by assumption) _ (fun _ h => h) off (.inr ⟨_, by k_mem, rfl, _, rfl⟩) ⟨rfl, rfl⟩)
      case doneC =>
        unfold FinE
        intro CA h8 tk8 F8 N9 o8
        obtain ⟨bs, hbs⟩ : ∃ bs : List Bool, bs = (List.range (rs ++ [retR]).length).map fun i : Nat => isJumpF (rowA (rs ++ [retR]) (i : Int)).op := ⟨_, rfl⟩
        have eA : (List.range us3.toArray.size).map (fun i : Nat => Value.bool (isJumpF (rowA (rs ++ [retR]) (i : Int)).op)) = bs.map Value.bool := by
          rw [List.size_toArray, hul, hbs, List.map_map]; rfl
        have eB : (List.range (ys ++ [Value.ref RT]).toArray.size).map (fun i : Nat => Value.bool (isJumpF (rowA (rs ++ [retR]) (i : Int)).op)) = bs.map Value.bool := by
          rw [List.size_toArray, hul2, hbs, List.map_map]; rfl
        rw [eA] at N9
        clear o8
        k_steps
        refine Hold.mk ?_
        k_here
        k_dflt (refine LCg.ListComp_U (F₀ := by k_asm) (by with_unfolding_all rfl) (by decide) (by rfl) (by decide) (by rfl) ?_)
        k_steps
        refine Hold.mk ?_
        k_here
        k_dflt (refine LCg.CompSrc.ledger (by rfl) (by k_asm) (by k_asm) (by k_mem) (by (rw [List.size_toArray, PySem.sizeLine_eq]; omega)) ?_)
        intro gE
        refine comp_fun (fun i => .bool (isJumpF (rowA (rs ++ [retR]) (i : Int)).op)) ?stepD ?doneD
        case stepD =>
          intro i v ys5 hin hP I oI C oC D m₂ h tk E' hns hx F N off ne
          obtain ⟨ra, rn, t1, t2, vb, t3, rfl, hmem, hrin, hir⟩ := row_get hD8 hP
          have hje := law_jump_eq (W.rows _ hrin)
          k_steps
          refine Hold.mk ?_
          k_here
          k_dflt (refine' conV_use (by k_asm) (by k_asm) (by k_asm) (by k_asm) (by k_asm) (by first | exact rfl | assumption) (law_is_jump_con _ _ _ _ _ _ _) (by k_mem) (by ktr_room) (by ktr_units) ?_)
          rintro _ h' tk' F' N' rfl
          k_steps
          exact Hold.mk (CompEnd.intro (by assumption) (by assumption) _ (fun _ h => h) off (.inr ⟨_, by k_mem, rfl, _, rfl⟩) ⟨rfl, by rw [hje]⟩)
        case doneD =>
          unfold FinE
          intro CB h9 tk9 F9 N10 o9
          rw [eB] at N10
          clear o9
          k_steps
          refine Hold.mk ?_
          k_dflt (refine' bools_eq (bs := bs) ?en ?ea ?eb ?eu ?eq)
          (case en => k_asm)
          (case ea => k_mem)
          (case eb => k_mem)
          (case eu => ke_room)
          k_steps
          done)
end Mine
end

theorem PySem.Challenge.cw_nm0108_01_holds : PySem.Challenge.rw_nm0108_01.Holds := by
  exact Mine.law_holds
