import PyProof.Rows.All
import PyProof.SeqWrite
import PyProof.TupleIter
import PyProof.SliceList
import PyProof.ForAny
import PyProof.PlainList
import PyProof.CompTup
import PyProof.Conv_int_bool
import PyProof.EnumMake
import PyProof.ExcBaseAll.Exception
import PyProof.ExcClass3
import PyProof.WalksMore
import PyProof.ListRange
import PyProof.WalkInts
import PyProof.ReprLoop
import PyProof.Rows.TupAssign
import PyProof.Rows.Chain
import PyProof.Rows.RuleU_int
import PyProof.Rows.StrKeys3
import PyProof.Rows.RuleB_small
import PyProof.Rows.StrRules
import PyProof.Rows.EqDataRows
import OpenK.KMake
import OpenK.KMore
import OpenK.KCell
import OpenK.KLine
import KE.LcTurns
import KE.KNest
import KE.KLam
import KE.KTurns
import OpenK.KOwn
import KE.KPairComp
import KE.KPairTest
import OpenK.ZGo
import Lean
import PySem.Challenge.RW_on0006_01
open PySem PySem.W PyProof.Rows
set_option Elab.async false
set_option maxRecDepth 100000
set_option linter.unusedVariables false
set_option genSizeOf false
set_option genInjectivity false
-- TopK
set_option maxHeartbeats 8000000
local macro_rules | `(tactic| k_head) => `(tactic| z_head)
namespace Mine
open_top hd for PySem.Challenge.rw_on0006_01
end Mine

-- Calc
section
open PySem PySem.W PySem.Calls PyProof.Rows
set_option tactic.hygienic false
namespace Mine
universe u0 u1 u2 u3 u4 u5 u6 u7 u8 u9 u10 u11 u12 u13 u14 u15 u16
inductive C3 (p0 p1 p2 : Prop) : Prop
  | mk (h0 : p0) (h1 : p1) (h2 : p2)
inductive C4 (p0 p1 p2 p3 : Prop) : Prop
  | mk (h0 : p0) (h1 : p1) (h2 : p2) (h3 : p3)
inductive C5 (p0 p1 p2 p3 p4 : Prop) : Prop
  | mk (h0 : p0) (h1 : p1) (h2 : p2) (h3 : p3) (h4 : p4)
inductive C6 (p0 p1 p2 p3 p4 p5 : Prop) : Prop
  | mk (h0 : p0) (h1 : p1) (h2 : p2) (h3 : p3) (h4 : p4) (h5 : p5)
inductive C8 (p0 p1 p2 p3 p4 p5 p6 p7 : Prop) : Prop
  | mk (h0 : p0) (h1 : p1) (h2 : p2) (h3 : p3) (h4 : p4) (h5 : p5) (h6 : p6) (h7 : p7)
inductive X1 {α0 : Sort u0} (p : α0 → Prop) : Prop
  | mk (a0 : α0) (h : p a0)
inductive X2 {α0 : Sort u0} {α1 : Sort u1} (p : α0 → α1 → Prop) : Prop
  | mk (a0 : α0) (a1 : α1) (h : p a0 a1)
inductive X3 {α0 : Sort u0} {α1 : Sort u1} {α2 : Sort u2} (p : α0 → α1 → α2 → Prop) : Prop
  | mk (a0 : α0) (a1 : α1) (a2 : α2) (h : p a0 a1 a2)
inductive X4 {α0 : Sort u0} {α1 : Sort u1} {α2 : Sort u2} {α3 : Sort u3} (p : α0 → α1 → α2 → α3 → Prop) : Prop
  | mk (a0 : α0) (a1 : α1) (a2 : α2) (a3 : α3) (h : p a0 a1 a2 a3)
inductive X5 {α0 : Sort u0} {α1 : Sort u1} {α2 : Sort u2} {α3 : Sort u3} {α4 : Sort u4} (p : α0 → α1 → α2 → α3 → α4 → Prop) : Prop
  | mk (a0 : α0) (a1 : α1) (a2 : α2) (a3 : α3) (a4 : α4) (h : p a0 a1 a2 a3 a4)
inductive X6 {α0 : Sort u0} {α1 : Sort u1} {α2 : Sort u2} {α3 : Sort u3} {α4 : Sort u4} {α5 : Sort u5} (p : α0 → α1 → α2 → α3 → α4 → α5 → Prop) : Prop
  | mk (a0 : α0) (a1 : α1) (a2 : α2) (a3 : α3) (a4 : α4) (a5 : α5) (h : p a0 a1 a2 a3 a4 a5)
inductive X8 {α0 : Sort u0} {α1 : Sort u1} {α2 : Sort u2} {α3 : Sort u3} {α4 : Sort u4} {α5 : Sort u5} {α6 : Sort u6} {α7 : Sort u7} (p : α0 → α1 → α2 → α3 → α4 → α5 → α6 → α7 → Prop) : Prop
  | mk (a0 : α0) (a1 : α1) (a2 : α2) (a3 : α3) (a4 : α4) (a5 : α5) (a6 : α6) (a7 : α7) (h : p a0 a1 a2 a3 a4 a5 a6 a7)

theorem no_one {α : Type} {x : Option α} {a : α} {G : Prop} (n : x = none) (e : x = some a) : G := by rw [n] at e; cases e
theorem no_at {α β : Type} {f : α → Option β} {a b : α} {o : β} {G : Prop} (q : a = b) (n : f b = none) (e : f a = some o) : G := no_one n (q ▸ e)
theorem i1 {α : Type} {a : α} {C P : α → Prop} (k : C a → P a) : ∀ a', (a' = a ∧ C a') → P a' := by rintro _ ⟨rfl, c⟩; exact k c
theorem i1v {α β : Type} {a : α} {C : β → Prop} {P : β → α → Prop} (k : ∀ v, C v → P v a) : ∀ v a', (a' = a ∧ C v) → P v a' := by rintro v _ ⟨rfl, c⟩; exact k v c
theorem i2 {α β : Type} {a : α} {b : β} {P : β → α → Prop} (k : P b a) : ∀ v a', (a' = a ∧ v = b) → P v a' := by rintro _ _ ⟨rfl, rfl⟩; exact k
theorem i2t {α β τ : Type} {a : α} {f : τ → β} {P : β → α → Prop} (k : ∀ t, P (f t) a) : ∀ v a', (a' = a ∧ ∃ t, v = f t) → P v a' := by rintro _ _ ⟨rfl, t, rfl⟩; exact k t

theorem ar1 {d n L : Nat} (h : d + (n + 1) < L) : d + 1 + n < L := Nat.lt_of_le_of_lt (Nat.le_of_eq (Nat.succ_add d n)) h
theorem ar2 {u n k L : Nat} (h : u + 8 * (n + 1) + k < L) : u + 3 + 8 * n + k < L := Nat.lt_of_le_of_lt (Nat.add_le_add_right (Nat.le_trans (Nat.le_of_eq (Nat.add_assoc u 3 (8 * n))) (Nat.add_le_add_left (Nat.le_trans (Nat.le_of_eq (Nat.add_comm 3 (8 * n))) (Nat.add_le_add_left (show 3 ≤ 8 by decide) (8 * n))) u)) k) h
theorem ar3 {n i : Nat} (h : i < n) : n + 1 - (i + 1) < n + 1 - i := by rw [Nat.succ_sub_succ, Nat.succ_sub (Nat.le_of_lt h)]; exact Nat.lt_succ_self _
theorem app_lt {α : Type} {l : List α} {a : α} {j : Nat} {r : Option α} (hj : j < l.length) (h : (l ++ [a])[j]? = r) : l[j]? = r := (List.getElem?_append_left hj).symm.trans h
theorem app_len {α : Type} {l : List α} {a b : α} {j : Nat} (hj : ¬ j < l.length) (h : (l ++ [a])[j]? = some b) : j = l.length := by
  have := (List.getElem?_eq_some_iff.mp h).1
  rw [List.length_append] at this
  exact Nat.le_antisymm (Nat.le_of_lt_succ this) (Nat.le_of_not_lt hj)
theorem app_eq {α : Type} {l : List α} {a b : α} {j : Nat} (e : j = l.length) (h : (l ++ [a])[j]? = some b) : a = b := by
  subst e; simpa using h
theorem allc {α : Type} {a : α} {l : List α} {P : α → Prop} (h : P a) (t : ∀ b ∈ l, P b) : ∀ b ∈ a :: l, P b := fun b hb => by
  rcases List.mem_cons.mp hb with rfl | hb
  · exact h
  · exact t b hb
theorem all1 {α : Type} {a : α} {P : α → Prop} (h : P a) : ∀ b ∈ [a], P b := fun b hb => by rw [List.mem_singleton.mp hb]; exact h
theorem z63 {i n : Nat} (hi : i < n) (h : n ≤ 1000) : (i : Int) < 2 ^ 63 := Int.lt_of_lt_of_le (Int.ofNat_lt.mpr (Nat.lt_of_lt_of_le hi h)) (by decide)
theorem z65 {i n : Nat} (hi : i < n) (h : n ≤ 5) : (i : Int) < 2 ^ 63 := z63 hi (Nat.le_trans h (by decide))
theorem zn {n : Nat} (h : n ≤ 1000) : (n : Int) < 2 ^ 63 := Int.lt_of_le_of_lt (Int.ofNat_le.mpr h) (by decide)
theorem zlen {α β : Type} {l : List α} {f : α → β} (h : l.length ≤ 1000) : ((l.map f).toArray.size : Int) < 2 ^ 63 := zn (by rw [List.size_toArray, List.length_map]; exact h)
theorem zlenE {α β : Type} {l : List α} {f : α → β} {n : Nat} (e : l.length = n) (h : n ≤ 5) : ((l.map f).toArray.size : Int) < 2 ^ 63 := zlen (e ▸ Nat.le_trans h (by decide))
theorem zvs {α : Type} {l : List α} (h : l.length ≤ 1000) : (l.toArray.size : Int) < 2 ^ 63 := zn (by rw [List.size_toArray]; exact h)

theorem gi {α β : Type} {l : List α} {f : α → β} {i : Nat} {a : α} (h : l[i]? = some a) : (l.map f).toArray[(i : Int).toNat]? = some (f a) := by simp [h]
theorem gv {α : Type} {l : List α} {i : Nat} {a : α} (h : l[i]? = some a) : l.toArray[(i : Int).toNat]? = some a := by simpa using h
theorem zvsE {α : Type} {l : List α} {n : Nat} (e : l.length = n) (h : n ≤ 1000) : (l.toArray.size : Int) < 2 ^ 63 := zvs (e ▸ h)
theorem le5 {a n : Nat} (e : a = n) (h : n ≤ 5) : a ≤ 1000 := e ▸ Nat.le_trans h (by decide)
theorem sl {n : Nat} (h : n ≤ 1000) : n ≤ sizeLine := Nat.le_trans h (by rw [sizeLine_eq]; decide)
theorem slm {α β : Type} {l : List α} {f : α → β} (h : l.length ≤ 1000) : (l.map f).toArray.size ≤ sizeLine := by rw [List.size_toArray, List.length_map]; exact sl h
theorem tn {x : Int} {n : Nat} (h0 : 0 ≤ x) (h : x < n) : x.toNat < n := (Int.toNat_lt h0).mpr h
theorem lt2 {n : Nat} {x : Int} (e : x = n) (h : x < 2) : n ≤ 1 := Nat.le_of_lt_succ (Int.ofNat_lt.mp (show (n : Int) < ((2 : Nat) : Int) from e ▸ h))
theorem nlt2 {n : Nat} {x : Int} (e : x = n) (h : ¬ x < 2) : ¬ n ≤ 1 := fun q => h (e ▸ Int.ofNat_lt.mpr (Nat.lt_succ_of_le q))

-- t, begun where the heap is h, ends without a raise, with a value and a heap of which P holds
noncomputable def Do {α : Type} (PR : Program) (w : World) (A : Around) (t : Sem α) (h : Heap) (P : α → Heap → Prop) : Prop :=
  ∀ (s : Shared) (Q : α → Shared → Prop) (E : Value → Shared → Prop), s.heap = h → (∀ v h' tk, P v h' → Q v { s with heap := h', toks := tk }) → wpAny (model PR w) A t Q E s

theorem Sh.self {s : Shared} {h : Heap} (e : s.heap = h) (tk : Nat) : ({ s with heap := h, toks := tk } : Shared) = { s with toks := tk } := by rw [← e]
section
variable {PR : Program} {α β : Type} {w : World} {A : Around} {h : Heap} {t : Sem α}
theorem Do.mono {P P' : α → Heap → Prop} (d : Do PR w A t h P) (k : ∀ v h', P v h' → P' v h') : Do PR w A t h P' := fun s Q E e q => d s Q E e fun v h' tk p => q v h' tk (k v h' p)
theorem Do.post {P : α → Heap → Prop} (k : ∀ R : α → Heap → Prop, (∀ v h', P v h' → R v h') → Do PR w A t h R) : Do PR w A t h P := k P fun _ _ p => p
theorem Do.now {s : Shared} {Q : α → Shared → Prop} {P : α → Heap → Prop} {v : α} (e : s.heap = h) (q : ∀ v h' tk, P v h' → Q v { s with heap := h', toks := tk }) (p : P v h) : Q v s := by
  have := q v h s.toks p
  rw [Sh.self e] at this; exact this
theorem Do.tick {s : Shared} {Q : α → Shared → Prop} {P : α → Heap → Prop} {v : α} (tk : Nat) (e : s.heap = h) (q : ∀ v h' tk, P v h' → Q v { s with heap := h', toks := tk }) (p : P v h) : Q v { s with toks := tk } := by
  have := q v h tk p
  rw [Sh.self e] at this; exact this
end

-- plain values, whatever their tokens
inductive D where
  | int (n : Int)
  | str (x : Str)
  | bool (x : Bool)
  | none
  | ref (a : Addr)
noncomputable def D.Is : D → Value → Prop
  | .int n, v => ∃ t, v = .int n t
  | .str x, v => ∃ t, v = .str x t
  | .bool x, v => v = .bool x
  | .none, v => v = .none
  | .ref a, v => v = .ref a
theorem D.Is.handed {d : D} {v : Value} (x : d.Is v) : handedIn v = true := by
  cases d with
  | int n => obtain ⟨t, rfl⟩ := x; rfl
  | str n => obtain ⟨t, rfl⟩ := x; rfl
  | bool n => cases x; rfl
  | none => cases x; rfl
  | ref a => cases x; rfl

-- the expression is worth d, and nothing moves
noncomputable def Pe (PR : Program) (w : World) (A : Around) (e : Expr) (env : Env) (h : Heap) (d : D) : Prop := Do PR w A (eval e env) h fun v h' => h' = h ∧ d.Is v
-- the test comes out so, and nothing moves
noncomputable def Pt (PR : Program) (w : World) (A : Around) (e : Expr) (env : Env) (h : Heap) (b : Bool) : Prop := Do PR w A (isTrue e env (eval e env)) h fun v h' => h' = h ∧ v = b

-- what stands of the text and of the built-ins; all of it lies below 254
structure Ok (K : Frag) (h : Heap) : Prop where
  k : K.In h
  top : X4 (fun p loose mg mb => TopRead p loose mg mb h)
  lt : ∀ a o, K.lookup a = some o → a < 254
  big : ∃ o, h.get? 253 = some o
theorem Ns_at {h h' : Heap} {a : Addr} {m : Str → Option Value} (x : h.Ns a m) (k : ∀ o, h.get? a = some o → h'.get? a = some o) : h'.Ns a m := let ⟨o, es, ep, e, r⟩ := x; ⟨o, es, ep, k _ e, r⟩
theorem Ok.low {K : Frag} {h h' : Heap} (x : Ok K h) (k : ∀ b o, b < 254 → h.get? b = some o → h'.get? b = some o) : Ok K h' :=
  ⟨fun a o e => k a o (x.lt a o e) (x.k a o e), let ⟨p, l, mg, mb, T⟩ := x.top; ⟨p, l, mg, mb, Ns_at T.g fun o => k _ o (by decide), Ns_at T.b fun o => k _ o (by decide), let ⟨mc, n, q⟩ := T.nolimit; ⟨mc, Ns_at n fun o => k _ o (by decide), q⟩, T.builtins, T.free⟩, x.lt, let ⟨o, e⟩ := x.big; ⟨o, k _ o (by decide) e⟩⟩
theorem Ok.keeps {K : Frag} {h h' : Heap} (x : Ok K h) (k : h.StaysIn h') : Ok K h' := x.low fun b o _ => k b o
theorem Ok.size {K : Frag} {h : Heap} (x : Ok K h) : 254 ≤ h.objs.size := let ⟨_, e⟩ := x.big; Heap.lt_size e

-- the frame at L holds these
noncomputable def Lo (h : Heap) (L : Addr) (l : List (Str × D)) : Prop := ∃ m, h.Ns L m ∧ ∀ x d, l.lookup x = some d → ∃ v, m x = some v ∧ d.Is v
theorem Lo.keeps {h h' : Heap} {L : Addr} {l : List (Str × D)} (x : Lo h L l) (k : h.StaysIn h') : Lo h' L l := let ⟨m, n, q⟩ := x; ⟨m, n.keeps k, q⟩
theorem Lo.at {h h' : Heap} {L : Addr} {l : List (Str × D)} (x : Lo h L l) (k : ∀ o, h.get? L = some o → h'.get? L = some o) : Lo h' L l := let ⟨m, ⟨o, es, ep, a, r⟩, q⟩ := x; ⟨m, ⟨o, es, ep, k o a, r⟩, q⟩
-- a body at its work: the frame; what stood before it; L is the frame's own
structure Bd (g : Heap) (L : Addr) (l : List (Str × D)) (h : Heap) : Prop where
  lo : Lo h L l
  st : g.StaysIn h
  own : g.get? L = none
theorem Bd.keeps {g h h' : Heap} {L : Addr} {l : List (Str × D)} (x : Bd g L l h) (k : h.StaysIn h') : Bd g L l h' := ⟨x.lo.keeps k, fun b o e => k b o (x.st b o e), x.own⟩
theorem Bd.ne {g h : Heap} {L a : Addr} {l : List (Str × D)} {o : Obj} (x : Bd g L l h) (e : g.get? a = some o) : a ≠ L := fun q => by rw [q, x.own] at e; cases e
theorem Bd.onto {g h : Heap} {L : Addr} {l : List (Str × D)} (x : Bd g L l h) : g.StaysIn (h.hide L) := fun b o e => (Heap.hide_ne h (x.ne e)).trans (x.st b o e)

section
variable {PR : Program} {w : World} {A : Around} {env : Env} {h : Heap} {K : Frag}
theorem Pe.int {i : Int} {k pos} : Pe PR w A (.Constant (.int i) k pos) env h (.int i) := fun s Q E e q => wpAny_Constant_int (Do.tick _ e q ⟨rfl, _, rfl⟩)
theorem Pe.str {x : Str} {k pos} : Pe PR w A (.Constant (.str x) k pos) env h (.str x) := fun s Q E e q => wpAny_Constant_str (Do.tick _ e q ⟨rfl, _, rfl⟩)
theorem Pe.none {k pos} : Pe PR w A (.Constant .none k pos) env h .none := fun s Q E e q => wpAny_Constant_none (Do.now e q ⟨rfl, rfl⟩)
theorem Pe.bool {b k pos} : Pe PR w A (.Constant (.bool b) k pos) env h (.bool b) := fun s Q E e q => wpAny_Constant_bool (Do.now e q ⟨rfl, rfl⟩)
theorem Do.binop {l r : Expr} {op pos} {P : Value → Heap → Prop} {P2 : Value → Value → Heap → Prop} {R : Value → Heap → Prop} (dl : Do PR w A (eval l env) h P) (dr : ∀ a h1, P a h1 → Do PR w A (eval r env) h1 (P2 a))
    (dop : ∀ a b h2, P2 a b h2 → Do PR w A (binaryOp op a b) h2 R) : Do PR w A (eval (.BinOp l op r pos) env) h R := fun s Q E e q =>
  wpAny_BinOp (dl s _ E e fun a h1 _ p => dr a h1 p _ _ E rfl fun b h2 _ p2 => dop a b h2 p2 _ Q E rfl fun v h' tk r => q v h' tk r)
theorem Pe.binop {l r : Expr} {op pos} {a b d : D} (dl : Pe PR w A l env h a) (dr : Pe PR w A r env h b) (dop : ∀ x y, a.Is x → b.Is y → Do PR w A (binaryOp op x y) h fun v h' => h' = h ∧ d.Is v) : Pe PR w A (.BinOp l op r pos) env h d :=
  Do.binop (P2 := fun x y h' => h' = h ∧ a.Is x ∧ b.Is y) dl (fun x h1 p => by obtain ⟨rfl, px⟩ := p; exact dr.mono fun y h' p => ⟨p.1, px, p.2⟩) fun x y h2 p => by obtain ⟨rfl, px, py⟩ := p; exact dop x y px py
theorem Pe.add {l r : Expr} {pos} {a b : Int} (dl : Pe PR w A l env h (.int a)) (dr : Pe PR w A r env h (.int b)) : Pe PR w A (.BinOp l .Add r pos) env h (.int (a + b)) :=
  Pe.binop dl dr fun x y ⟨_, ex⟩ ⟨_, ey⟩ s Q E e q => by subst ex ey; exact add_int (Do.tick _ e q ⟨rfl, _, rfl⟩)
theorem Pe.sub {l r : Expr} {pos} {a b : Int} (dl : Pe PR w A l env h (.int a)) (dr : Pe PR w A r env h (.int b)) : Pe PR w A (.BinOp l .Sub r pos) env h (.int (a - b)) :=
  Pe.binop dl dr fun x y ⟨_, ex⟩ ⟨_, ey⟩ s Q E e q => by subst ex ey; exact sub_int (Do.tick _ e q ⟨rfl, _, rfl⟩)
theorem Pe.mul {l r : Expr} {pos} {a b : Int} (hm : IntMulOk a b) (dl : Pe PR w A l env h (.int a)) (dr : Pe PR w A r env h (.int b)) : Pe PR w A (.BinOp l .Mult r pos) env h (.int (a * b)) :=
  Pe.binop dl dr fun x y ⟨_, ex⟩ ⟨_, ey⟩ s Q E e q => by subst ex ey; exact mul_int (Do.tick _ e q ⟨rfl, _, rfl⟩) hm
theorem Pe.mod {l r : Expr} {pos} {a b : Int} (hb : b ≠ 0) (dl : Pe PR w A l env h (.int a)) (dr : Pe PR w A r env h (.int b)) : Pe PR w A (.BinOp l .Mod r pos) env h (.int (a.fmod b)) :=
  Pe.binop dl dr fun x y ⟨_, ex⟩ ⟨_, ey⟩ s Q E e q => by subst ex ey; exact mod_int' hb (Do.tick _ e q ⟨rfl, _, rfl⟩)
theorem Pe.fdiv {l r : Expr} {pos} {a b : Int} (hb : b ≠ 0) (hp : Builtin.divisionGoesByPylong a b = false) (dl : Pe PR w A l env h (.int a)) (dr : Pe PR w A r env h (.int b)) : Pe PR w A (.BinOp l .FloorDiv r pos) env h (.int (a.fdiv b)) :=
  Pe.binop dl dr fun x y ⟨_, ex⟩ ⟨_, ey⟩ s Q E e q => by subst ex ey; exact floordiv_int hb (Do.tick _ e q ⟨rfl, _, rfl⟩) (.inl hp)

-- names
theorem Pe.loc {l : List (Str × D)} {x : Str} {pos : Pos} {d : D} (lo : Lo h env.locals l) (hx : l.lookup x = some d) (hk : env.scope.kind = .function := by rfl) (hl : env.kindOf x = some .local := by rfl) (hd : (x == ("__debug__" : Str)) = false := by decide) : Pe PR w A (.Name x pos) env h d := fun s Q E e q => by
  obtain ⟨m, n, k⟩ := lo
  obtain ⟨v, hv, dv⟩ := k x d hx
  exact wpAny_Name (wpAny_loadName_local hk hl (e ▸ n) hv (Do.now e q ⟨rfl, dv⟩)) hd
theorem Do.glob {x : Str} {pos : Pos} {v : Value} (B : Ok K h) (e : nsIn K mainGlobals x = some (some v)) (hg : env.globals = mainGlobals := by rfl) (hk : env.scope.kind = .function := by rfl) (hx : env.kindOf x = some .globalImplicit := by rfl) (hd : (x == ("__debug__" : Str)) = false := by decide) :
    Do PR w A (eval (.Name x pos) env) h fun u h' => h' = h ∧ u = v := fun s Q E es q => by
  obtain ⟨p, loose, mg, mb, T⟩ := B.top
  subst es
  exact Name_function_global hk hx (loadGlobal_global (env := env) (by rw [hg]; exact T.g) (mg_of B.k T.g e) (Do.now rfl q ⟨rfl, rfl⟩)) hd
theorem Do.builtin {x : Str} {pos : Pos} {v : Value} (B : Ok K h) (e : nsIn K mainGlobals x = some .none) (hv : bootBuiltins x = some v) (hn : x ≠ "__name__") (hg : env.globals = mainGlobals := by rfl) (hb : env.builtins = builtinsNs := by rfl) (hk : env.scope.kind = .function := by rfl) (hx : env.kindOf x = some .globalImplicit := by rfl) (hd : (x == ("__debug__" : Str)) = false := by decide) :
    Do PR w A (eval (.Name x pos) env) h fun u h' => h' = h ∧ u = v := fun s Q E es q => by
  obtain ⟨p, loose, mg, mb, T⟩ := B.top
  subst es
  exact Name_function_global hk hx (loadGlobal_builtin (env := env) (by rw [hg]; exact T.g) (mg_none_of B.k T.g e) (by rw [hb]; exact T.b) ((T.builtins x hn).trans hv) (Do.now rfl q ⟨rfl, rfl⟩)) hd
end
end Mine
end

-- Calc2
section
open PySem PySem.W PySem.Calls PyProof.Rows
set_option tactic.hygienic false
namespace Mine
section
variable {PR : Program} {w : World} {A : Around} {env : Env} {h : Heap} {K : Frag}
-- class C leaves attr to its instances' own dicts
noncomputable def ownAttr (K : Frag) (C : Addr) (attr : Str) : Bool := plainGet K C attr && hasDictIn K C && findIn K (.ref C) attr == some .none
structure Inst (h : Heap) (x C dx : Addr) (es : List DictEntry) (n : Nat) : Prop where
  o : h.get? x = some (instObj C dx)
  d : h.get? dx = some (dictOf es n)
theorem Inst.at {x C dx : Addr} {es : List DictEntry} {n : Nat} (I : Inst h x C dx es n) : InstAt h x (instObj C dx) C (some (dictOf es n)) := ⟨I.o, rfl, rfl, I.d⟩
theorem Inst.keeps {h' : Heap} {x C dx : Addr} {es : List DictEntry} {n : Nat} (I : Inst h x C dx es n) (k : h.StaysIn h') : Inst h' x C dx es n := ⟨k _ _ I.o, k _ _ I.d⟩
theorem DoGetAttr {x C dx : Addr} {es : List DictEntry} {n : Nat} {attr : Str} {v : Value} {b : Bool} (B : Ok K h) (I : Inst h x C dx es n) (hc : ownAttr K C attr = true) (hl : getL attr es = some (some v)) (hv : handedIn v = true) :
    Do PR w A (getAttr (.ref x) attr b) h fun u h' => h' = h ∧ u = v := fun s Q E e q => by
  subst e
  simp only [ownAttr, Bool.and_eq_true, beq_iff_eq] at hc
  exact get_value B.k I.at (plainGet_of hc.1.1).1 (findObj_own hc.1.2 hc.2 rfl hl) hv (Do.tick _ rfl q ⟨rfl, rfl⟩)
-- the tree of an attribute whose base is no lone call of a name
noncomputable abbrev AttrTree (value : Expr) (attr : Str) (pos : Pos) (env : Env) : Prop := eval (.Attribute value attr pos) env = (do
      let o ← eval value env
      standAt pos.atName
      let r ← holding [o] (getAttr o attr true)
      letTemporaryGo value o r
      pure r)
theorem Do.attr {value : Expr} {attr : Str} {pos : Pos} {P : Value → Heap → Prop} {R : Value → Heap → Prop} (dv : Do PR w A (eval value env) h P) (k : ∀ u h1, P u h1 → Do PR w A (getAttr u attr true) h1 R) (he : AttrTree value attr pos env := by with_unfolding_all rfl) :
    Do PR w A (eval (.Attribute value attr pos) env) h R := fun s Q E e q =>
  Attribute_any_ (dv s _ E e fun u h1 tk p => k u h1 p _ Q E rfl fun v h' tk r => q v h' tk r) he
theorem Pe.attr {value : Expr} {attr : Str} {pos : Pos} {x C dx : Addr} {es : List DictEntry} {n : Nat} {v : Value} {d : D} (B : Ok K h) (I : Inst h x C dx es n) (hc : ownAttr K C attr = true) (hl : getL attr es = some (some v)) (hd : d.Is v) (dv : Pe PR w A value env h (.ref x)) (he : AttrTree value attr pos env := by with_unfolding_all rfl) : Pe PR w A (.Attribute value attr pos) env h d :=
  Do.attr (he := he) dv fun u h1 p => by revert u h1 p; refine i2 ?_; exact (DoGetAttr B I hc hl hd.handed).mono fun _ _ p => ⟨p.1, by rw [p.2]; exact hd⟩

-- items
noncomputable abbrev ItemTree (slice : Expr) : Prop := ∀ l k u, subscripted slice false (.ref l) (.int k u) = operate [.ref l, .int k u] (getItem (.ref l) (.int k u))
theorem Do.item {value slice : Expr} {pos : Pos} {P : Value → Heap → Prop} {P2 : Value → Value → Heap → Prop} {R : Value → Heap → Prop} (dv : Do PR w A (eval value env) h P) (di : ∀ a h1, P a h1 → Do PR w A (eval slice env) h1 (P2 a))
    (k : ∀ a b h2, P2 a b h2 → Do PR w A (subscriptTail value slice a b) h2 R) : Do PR w A (eval (.Subscript value slice pos) env) h R := fun s Q E e q =>
  Subscript_ (dv s _ E e fun a h1 _ p => di a h1 p _ _ E rfl fun b h2 _ p2 => k a b h2 p2 _ Q E rfl fun v h' tk r => q v h' tk r)
theorem Do.listItem {value slice : Expr} {l : Addr} {items : Array Value} {i : Int} {t : Tok} {v : Value} (hl : h.IsList l items) (h0 : 0 ≤ i) (h1 : i < 2 ^ 63) (hx : items[i.toNat]? = some v) (hs : ItemTree slice := by intro _ _ _; with_unfolding_all rfl) :
    Do PR w A (subscriptTail value slice (.ref l) (.int i t)) h fun u h' => h' = h ∧ u = v := fun s Q E e q => by
  subst e
  exact tail_any hl.typeIs slot_list_getitem.lookup (wpAny_getItem_list hl h0 h1 hx (Do.now rfl q ⟨rfl, rfl⟩)) (hs l i t)
theorem Pe.item {value slice : Expr} {pos : Pos} {l : Addr} {items : Array Value} {i : Int} {v : Value} {d : D} (hl : h.IsList l items) (h0 : 0 ≤ i) (h1 : i < 2 ^ 63) (hx : items[i.toNat]? = some v) (hd : d.Is v) (dv : Pe PR w A value env h (.ref l)) (di : Pe PR w A slice env h (.int i)) (hs : ItemTree slice := by intro _ _ _; with_unfolding_all rfl) : Pe PR w A (.Subscript value slice pos) env h d :=
  Do.item (P2 := fun a b h' => h' = h ∧ a = .ref l ∧ ∃ t, b = .int i t) dv (fun a h1 p => by revert a h1 p; refine i2 ?_; exact di.mono fun _ _ p => ⟨p.1, rfl, p.2⟩)
    fun a b h2 p => by obtain ⟨rfl, rfl, t, rfl⟩ := p; exact (Do.listItem hl h0 h1 hx hs).mono fun _ _ p => ⟨p.1, by rw [p.2]; exact hd⟩

-- comparisons
theorem Do.cmp {l r : Expr} {op pos} {P : Value → Heap → Prop} {P2 : Value → Value → Heap → Prop} {R : Value → Heap → Prop} (dl : Do PR w A (eval l env) h P) (dr : ∀ a h1, P a h1 → Do PR w A (eval r env) h1 (P2 a)) (dop : ∀ a b h2, P2 a b h2 → Do PR w A (compareOp op a b) h2 R) (hm : behindInMarks op r = false := by rfl) : Do PR w A (eval (.Compare l [op] [r] pos) env) h R := fun s Q E e q =>
  wpAny_Compare1 (dl s _ E e fun a h1 _ p => dr a h1 p _ _ E rfl fun b h2 _ p2 => dop a b h2 p2 _ Q E rfl fun v h' tk r => q v h' tk r) hm
theorem Dt.cmp {l r : Expr} {op pos} {whole : Sem Value} {P : Value → Heap → Prop} {P2 : Value → Value → Heap → Prop} {R : Bool → Heap → Prop} (dl : Do PR w A (eval l env) h P) (dr : ∀ a h1, P a h1 → Do PR w A (eval r env) h1 (P2 a)) (dop : ∀ a b h2, P2 a b h2 → Do PR w A (compareOp op a b) h2 fun v h' => ∃ c, v = .bool c ∧ R c h') (hm : behindInMarks op r = false := by rfl) : Do PR w A (isTrue (.Compare l [op] [r] pos) env whole) h R := fun s Q E e q =>
  wpAny_isTrue_Compare1 (dl s _ E e fun a h1 _ p => dr a h1 p _ _ E rfl fun b h2 _ p2 => dop a b h2 p2 _ _ E rfl fun v h' tk r => by
    obtain ⟨c, rfl, r⟩ := r
    exact wpAny_truthy_bool (q c h' tk r)) hm
-- op on these plain values gives c, and nothing moves
noncomputable def Cmp (PR : Program) (w : World) (A : Around) (op : CmpOp) (a b : D) (h : Heap) (c : Bool) : Prop := ∀ x y, a.Is x → b.Is y → Do PR w A (compareOp op x y) h fun v h' => h' = h ∧ v = .bool c
theorem Pe.cmp {l r : Expr} {op pos} {a b : D} {c : Bool} (hop : Cmp PR w A op a b h c) (dl : Pe PR w A l env h a) (dr : Pe PR w A r env h b) (hm : behindInMarks op r = false := by rfl) : Pe PR w A (.Compare l [op] [r] pos) env h (.bool c) :=
  Do.cmp (hm := hm) (P2 := fun x y h' => h' = h ∧ a.Is x ∧ b.Is y) dl (fun x h1 p => by revert h1 p; refine i1 fun px => ?_; exact dr.mono fun y h' p => ⟨p.1, px, p.2⟩) fun x y h2 p => by obtain ⟨rfl, px, py⟩ := p; exact hop x y px py
theorem Pt.cmp {l r : Expr} {op pos} {a b : D} {c : Bool} (hop : Cmp PR w A op a b h c) (dl : Pe PR w A l env h a) (dr : Pe PR w A r env h b) (hm : behindInMarks op r = false := by rfl) : Pt PR w A (.Compare l [op] [r] pos) env h c :=
  Dt.cmp (hm := hm) (P2 := fun x y h' => h' = h ∧ a.Is x ∧ b.Is y) dl (fun x h1 p => by revert h1 p; refine i1 fun px => ?_; exact dr.mono fun y h' p => ⟨p.1, px, p.2⟩) fun x y h2 p => by
    obtain ⟨rfl, px, py⟩ := p
    exact (hop x y px py).mono fun v h' q => ⟨c, q.2, q.1, rfl⟩
theorem Cmp.gt {a b : Int} : Cmp PR w A .Gt (.int a) (.int b) h (decide (a > b)) := fun x y ⟨_, ex⟩ ⟨_, ey⟩ s Q E e q => by subst ex ey; exact gt_int (Do.now e q ⟨rfl, rfl⟩)
theorem Cmp.ge {a b : Int} : Cmp PR w A .GtE (.int a) (.int b) h (decide (a ≥ b)) := fun x y ⟨_, ex⟩ ⟨_, ey⟩ s Q E e q => by subst ex ey; exact ge_int (Do.now e q ⟨rfl, rfl⟩)
theorem Cmp.lt {a b : Int} : Cmp PR w A .Lt (.int a) (.int b) h (decide (a < b)) := fun x y ⟨_, ex⟩ ⟨_, ey⟩ s Q E e q => by subst ex ey; exact lt_int (Do.now e q ⟨rfl, rfl⟩)
theorem Cmp.le {a b : Int} : Cmp PR w A .LtE (.int a) (.int b) h (decide (a ≤ b)) := fun x y ⟨_, ex⟩ ⟨_, ey⟩ s Q E e q => by subst ex ey; exact le_int (Do.now e q ⟨rfl, rfl⟩)
theorem Cmp.eq {a b : Int} : Cmp PR w A .Eq (.int a) (.int b) h (a == b) := fun x y ⟨_, ex⟩ ⟨_, ey⟩ s Q E e q => by subst ex ey; exact eq_int (Do.now e q ⟨rfl, rfl⟩)
theorem Cmp.ne {a b : Int} : Cmp PR w A .NotEq (.int a) (.int b) h (a != b) := fun x y ⟨_, ex⟩ ⟨_, ey⟩ s Q E e q => by subst ex ey; exact ne_int (Do.now e q ⟨rfl, rfl⟩)
theorem Cmp.eqS {a b : Str} : Cmp PR w A .Eq (.str a) (.str b) h (a == b) := fun x y ⟨_, ex⟩ ⟨_, ey⟩ s Q E e q => by subst ex ey; exact eq_str (Do.now e q ⟨rfl, rfl⟩)
theorem Cmp.neS {a b : Str} : Cmp PR w A .NotEq (.str a) (.str b) h (a != b) := fun x y ⟨_, ex⟩ ⟨_, ey⟩ s Q E e q => by subst ex ey; exact ne_str (Do.now e q ⟨rfl, rfl⟩)
theorem Cmp.noneIs : Cmp PR w A .Is .none .none h true := fun x y ex ey s Q E e q => by cases ex; cases ey; exact wpAny_is_self rfl (Do.now e q ⟨rfl, rfl⟩)
theorem Cmp.refIs {a : Addr} : Cmp PR w A .Is (.ref a) .none h false := fun x y ex ey s Q E e q => by cases ex; cases ey; exact wpAny_is_other rfl (by intro z; cases z) (Do.now e q ⟨rfl, rfl⟩)
theorem Cmp.intIs {i : Int} : Cmp PR w A .Is (.int i) .none h false := fun x y ⟨_, ex⟩ ey s Q E e q => by subst ex; cases ey; exact wpAny_is_other rfl (by intro z; cases z) (Do.now e q ⟨rfl, rfl⟩)
-- tests
theorem Dt.value {x : Expr} {P : Value → Heap → Prop} {R : Bool → Heap → Prop} (d : Do PR w A (eval x env) h P) (k : ∀ v h1, P v h1 → ∃ b, v = .bool b ∧ R b h1) (he : isTrue x env (eval x env) = (do let v ← eval x env; standAt x.pos; holding [v] (truthy v)) := by rfl) :
    Do PR w A (isTrue x env (eval x env)) h R := fun s Q E e q => wpAny_isTrue_value (d s _ E e fun v h1 tk p => by
      obtain ⟨b, rfl, r⟩ := k v h1 p
      exact wpAny_truthy_bool (q b h1 tk r)) he
theorem Dt.not {x : Expr} {pos : Pos} {whole : Sem Value} {R : Bool → Heap → Prop} (d : Do PR w A (isTrue x env (eval x env)) h fun b h' => R (!b) h') : Do PR w A (isTrue (.UnaryOp .Not x pos) env whole) h R := fun s Q E e q =>
  wpAny_isTrue_Not (d s _ E e fun b h1 tk p => q (!b) h1 tk p)
theorem Dt.and2 {x y : Expr} {pos : Pos} {whole : Sem Value} {P R : Bool → Heap → Prop} (dx : Do PR w A (isTrue x env (eval x env)) h P) (dy : ∀ h1, P true h1 → Do PR w A (isTrue y env (eval y env)) h1 R) (no : ∀ h1, P false h1 → R false h1) :
    Do PR w A (isTrue (.BoolOp .And [x, y] pos) env whole) h R := fun s Q E e q =>
  wpAny_isTrue_BoolOp (wpAny_allTrue_And_cons (dx s _ E e fun b h1 tk p => by
    cases b with
    | false => exact q false h1 tk (no h1 p)
    | true => exact wpAny_allTrue_And_cons (dy h1 p _ _ E rfl fun b h2 tk r => by cases b with
      | false => exact q false h2 tk r
      | true => exact wpAny_allTrue_And_nil (q true h2 tk r))))
theorem Dt.or2 {x y : Expr} {pos : Pos} {whole : Sem Value} {P R : Bool → Heap → Prop} (dx : Do PR w A (isTrue x env (eval x env)) h P) (dy : ∀ h1, P false h1 → Do PR w A (isTrue y env (eval y env)) h1 R) (yes : ∀ h1, P true h1 → R true h1) :
    Do PR w A (isTrue (.BoolOp .Or [x, y] pos) env whole) h R := fun s Q E e q =>
  wpAny_isTrue_BoolOp (wpAny_allTrue_Or_cons (dx s _ E e fun b h1 tk p => by
    cases b with
    | true => exact q true h1 tk (yes h1 p)
    | false => exact wpAny_allTrue_Or_cons (dy h1 p _ _ E rfl fun b h2 tk r => by cases b with
      | true => exact q true h2 tk r
      | false => exact wpAny_allTrue_Or_nil (q false h2 tk r))))
theorem Do.ifExp {test body orelse : Expr} {pos : Pos} {P : Bool → Heap → Prop} {R : Value → Heap → Prop} (d : Do PR w A (isTrue test env (eval test env)) h P) (yes : ∀ h1, P true h1 → Do PR w A (eval body env) h1 R) (no : ∀ h1, P false h1 → Do PR w A (eval orelse env) h1 R) :
    Do PR w A (eval (.IfExp test body orelse pos) env) h R := fun s Q E e q => wpAny_IfExp (d s _ E e fun b h1 tk p => by
      cases b with
      | true => exact yes h1 p _ Q E rfl fun v h' tk r => q v h' tk r
      | false => exact no h1 p _ Q E rfl fun v h' tk r => q v h' tk r)
-- arguments
noncomputable def Args (PR : Program) (w : World) (A : Around) (args : List Expr) (pos : Pos) (env : Env) (h : Heap) (P : List Value → Heap → Prop) : Prop := Do PR w A (spliced (backTo pos (starEach args env))) h P
theorem Args.nil {pos : Pos} {P : List Value → Heap → Prop} (p : P [] h) : Args PR w A [] pos env h P := fun s Q E e q => spliced_nil (Do.now e q p)
theorem Args.cons {x : Expr} {xs : List Expr} {pos : Pos} {P : Value → Heap → Prop} {R : List Value → Heap → Prop} (d : Do PR w A (eval x env) h P) (k : ∀ v h1, P v h1 → Args PR w A xs pos env h1 fun vs h2 => R (v :: vs) h2) (he : starEach (x :: xs) env = (false, eval x env) :: starEach xs env := by rfl) :
    Args PR w A (x :: xs) pos env h R := fun s Q E e q => by
  rw [he]
  exact spliced_cons (d s _ E e fun v h1 tk p => k v h1 p _ _ E rfl fun vs h2 tk r => q (v :: vs) h2 tk r)
-- plain arguments
inductive AreD : List D → List Value → Prop
  | nil : AreD [] []
  | cons {d v ds vs} : d.Is v → AreD ds vs → AreD (d :: ds) (v :: vs)
theorem Args.plain1 {x : Expr} {xs : List Expr} {pos : Pos} {d : D} {ds : List D} (p : Pe PR w A x env h d) (ps : Args PR w A xs pos env h fun vs h' => h' = h ∧ AreD ds vs) (he : starEach (x :: xs) env = (false, eval x env) :: starEach xs env := by rfl) :
    Args PR w A (x :: xs) pos env h fun vs h' => h' = h ∧ AreD (d :: ds) vs := Args.cons (he := he) p fun v h1 q => by revert h1 q; refine i1 fun q => ?_; exact Do.mono ps fun vs h2 r => ⟨r.1, .cons q r.2⟩
theorem Args.plain0 {pos : Pos} : Args PR w A [] pos env h fun vs h' => h' = h ∧ AreD [] vs := Args.nil ⟨rfl, .nil⟩
-- what is called keeps itself
noncomputable def Callable (PR : Program) (w : World) (K : Frag) (f : Value) : Prop := ∀ h, Ok K h → ∃ k, (k = Keeper.frame ∨ k = Keeper.machine ∨ k = Keeper.boundFrame) ∧ Looks (model PR w) h (keeperOf f) k
theorem Callable.ofK {f : Value} (hk : keepIn K f = true) : Callable PR w K f := fun h B => keeps_K hk h B.k
theorem Callable.id {i : String} : Callable PR w K (.builtin i) := fun h _ => ⟨.machine, .inr (.inl rfl), Looks.of_pure rfl⟩
theorem Callable.type {i : String} : Callable PR w K (.type i) := fun h _ => ⟨.machine, .inr (.inl rfl), Looks.of_pure rfl⟩
theorem Do.callWith0 {f : Value} {first : List Value} {pos : Pos} {R : Value → Heap → Prop} (B : Ok K h) (C : Callable PR w K f) (d : Do PR w A (call f (first ++ []) []) h R) : Do PR w A (callWith pos f first (backTo pos (starEach [] env)) []) h R := fun s Q E e q =>
  callWith_of (P := Ok K) rfl C (evalArgs_nil3 ⟨e ▸ B, d s Q E e q⟩)
theorem DoCallWith {f : Value} {first : List Value} {x : Expr} {xs : List Expr} {pos : Pos} {P : List Value → Heap → Prop} {R : Value → Heap → Prop} (C : Callable PR w K f) (a : Args PR w A (x :: xs) pos env h P) (k : ∀ vs h1, P vs h1 → Ok K h1 ∧ Do PR w A (call f (first ++ vs) []) h1 R) (he : starEach (x :: xs) env = (false, eval x env) :: starEach xs env := by rfl) (hp : (backTo pos (starEach xs env)).any (·.1) = false := by rfl) : Do PR w A (callWith pos f first (backTo pos (starEach (x :: xs) env)) []) h R := fun s Q E e q => by
  unfold Args at a
  rw [he] at a ⊢
  exact callWith_of (P := Ok K) (by show ((false || (backTo pos (starEach xs env)).any (·.1)) || false) = false; rw [hp]; rfl) C (evalArgs_plain (a s _ E e fun vs h1 tk p => ⟨(k vs h1 p).1, (k vs h1 p).2 _ Q E rfl fun v h' tk r => q v h' tk r⟩))
theorem Do.callName {f : Str} {np pos : Pos} {args : List Expr} {P : Value → Heap → Prop} {R : Value → Heap → Prop} (d : Do PR w A (eval (.Name f np) env) h P) (k : ∀ u h1, P u h1 → Do PR w A (callWith pos u [] (backTo pos (starEach args env)) []) h1 R) :
    Do PR w A (eval (.Call (.Name f np) args [] pos) env) h R := fun s Q E e q => wpAny_Call_NameR (d s _ E e fun u h1 tk p => k u h1 p _ Q E rfl fun v h' tk r => q v h' tk r)
end
end Mine
end

-- Calc3
section
open PySem PySem.W PySem.Calls PyProof.Rows
set_option tactic.hygienic false
namespace Mine
section
variable {PR : Program} {w : World} {A : Around} {env : Env} {h : Heap} {K : Frag}
-- statements
theorem Ds.nil {R : Flow → Heap → Prop} (r : R .next h) : Do PR w A (execs [] env) h R := fun s Q E e q => wpAny_execs_nil (Do.now e q r)
theorem Ds.ret {x : Expr} {pos : Pos} {rest : List Stmt} {R : Flow → Heap → Prop} (d : Do PR w A (eval x env) h fun v h1 => R (.ret v) h1) : Do PR w A (execs (.Return (some x) pos :: rest) env) h R := fun s Q E e q =>
  wpAny_execs_cons (wpAny_Return_some (d s _ E e fun v h1 tk r => q (.ret v) h1 tk r))
theorem Ds.ifRet {test : Expr} {body rest : List Stmt} {pos : Pos} {T : Bool → Heap → Prop} {R : Flow → Heap → Prop} (dt : Do PR w A (isTrue test env (eval test env)) h T) (yes : ∀ h1, T true h1 → Do PR w A (execs body env) h1 fun f h' => (∃ v, f = .ret v) ∧ R f h')
    (no : ∀ h1, T false h1 → Do PR w A (execs rest env) h1 R) : Do PR w A (execs (.If test body [] pos :: rest) env) h R := fun s Q E e q =>
  wpAny_execs_cons (wpAny_If (dt s _ E e fun b h1 tk p => by
    cases b with
    | true => exact yes h1 p _ _ E rfl fun f h2 tk2 r => by obtain ⟨⟨v, rfl⟩, r⟩ := r; exact q (.ret v) h2 tk2 r
    | false => exact wpAny_execs_nil (no h1 p _ Q E rfl fun v h' tk r => q v h' tk r)))
theorem Ds.ifGo {test : Expr} {body orelse rest : List Stmt} {pos : Pos} {T : Bool → Heap → Prop} {P : Heap → Prop} {R : Flow → Heap → Prop} (dt : Do PR w A (isTrue test env (eval test env)) h T)
    (yes : ∀ h1, T true h1 → Do PR w A (execs body env) h1 fun f h' => f = .next ∧ P h') (no : ∀ h1, T false h1 → Do PR w A (execs orelse env) h1 fun f h' => f = .next ∧ P h')
    (k : ∀ h1, P h1 → Do PR w A (execs rest env) h1 R) : Do PR w A (execs (.If test body orelse pos :: rest) env) h R := fun s Q E e q =>
  wpAny_execs_cons (wpAny_If (dt s _ E e fun b h1 tk p => by
    cases b with
    | true => exact yes h1 p _ _ E rfl fun f h2 tk2 r => by obtain ⟨rfl, r⟩ := r; exact k h2 r _ Q E rfl fun v h' tk r => q v h' tk r
    | false => exact no h1 p _ _ E rfl fun f h2 tk2 r => by obtain ⟨rfl, r⟩ := r; exact k h2 r _ Q E rfl fun v h' tk r => q v h' tk r))
theorem Lo.put {h' : Heap} {L : Addr} {l : List (Str × D)} {m : Str → Option Value} {x : Str} {v : Value} {d : D} (n : h'.Ns L fun y => if y = x then some v else m y) (q : ∀ x d, l.lookup x = some d → ∃ v, m x = some v ∧ d.Is v) (hd : d.Is v) : Lo h' L ((x, d) :: l) := by
  refine ⟨_, n, fun y d' e => ?_⟩
  rw [List.lookup_cons] at e
  by_cases hy : y = x
  · subst hy; simp at e; subst e; exact ⟨v, by simp, hd⟩
  · have : (y == x) = false := by simpa using hy
    rw [this] at e
    simp only [if_neg hy]
    exact q y d' e
-- a store into the frame's own name
theorem DoStore {x : Str} {v : Value} {d : D} {g : Heap} {l : List (Str × D)} (b : Bd g env.locals l h) (hd : d.Is v) (hk : env.scope.kind = .function := by rfl) (hl : env.kindOf x = some .local := by rfl) :
    Do PR w A (storeName env x v) h fun _ h' => Bd g env.locals ((x, d) :: l) h' ∧ Heap.SameBut env.locals h h' := fun s Q E e q => by
  subst e
  obtain ⟨m, n, k⟩ := b.lo
  refine wpAny_storeName_local hl n (fun h' hn hs => q () h' _ ⟨⟨Lo.put hn k hd, fun a o e => (hs.2 a (b.ne e)).trans (b.st a o e), b.own⟩, hs⟩) ?_
  rw [hk]; rfl
theorem Ds.assign {x : Str} {pos' pos : Pos} {value : Expr} {rest : List Stmt} {P : Value → Heap → Prop} {R : Flow → Heap → Prop} (d : Do PR w A (eval value env) h P) (k : ∀ v h1, P v h1 → X3 (fun g l dv => C3 (Bd g env.locals l h1) (D.Is dv v) (∀ h2, Bd g env.locals ((x, dv) :: l) h2 → Heap.SameBut env.locals h1 h2 → Do PR w A (execs rest env) h2 R))) (hs : swapsWith value (some (.Name x pos')) pos.line env = pure false := by rfl) (hk : env.scope.kind = .function := by rfl) (hl : env.kindOf x = some .local := by rfl) :
    Do PR w A (execs (.Assign [.Name x pos'] value pos :: rest) env) h R := fun s Q E e q =>
  wpAny_execs_cons (wpAny_Assign_Name (d s _ E e fun v h1 tk p => by
    obtain ⟨g, l, dv, b, hd, k⟩ := k v h1 p
    exact DoStore (PR := PR) (w := w) (A := A) b hd hk hl _ _ E rfl fun _ h2 tk2 r => k h2 r.1 r.2 _ Q E rfl fun v h' tk r => q v h' tk r) hs)
-- a pure value into a name
theorem Ds.let {x : Str} {pos' pos : Pos} {value : Expr} {rest : List Stmt} {g : Heap} {l : List (Str × D)} {dv : D} {R : Flow → Heap → Prop} (b : Bd g env.locals l h) (d : Pe PR w A value env h dv) (k : ∀ h2, Bd g env.locals ((x, dv) :: l) h2 → Do PR w A (execs rest env) h2 R) (hs : swapsWith value (some (.Name x pos')) pos.line env = pure false := by rfl) (hk : env.scope.kind = .function := by rfl) (hl : env.kindOf x = some .local := by rfl) : Do PR w A (execs (.Assign [.Name x pos'] value pos :: rest) env) h R :=
  Ds.assign (hs := hs) (hk := hk) (hl := hl) d fun v h1 p => by revert h1 p; refine i1 fun hd => ?_; exact ⟨g, l, dv, b, hd, fun h2 b2 _ => k h2 b2⟩
theorem Ds.setItem {o i value : Expr} {pos' pos : Pos} {rest : List Stmt} {P : Value → Heap → Prop} {P4 : Heap → Prop} {R : Flow → Heap → Prop} (dv : Do PR w A (eval value env) h P) (dO : ∀ v h1, P v h1 → Do PR w A (eval o env) h1 fun ov h2 => ∃ (T : Value → Heap → Prop), Do PR w A (eval i env) h2 T ∧ ∀ iv h3, T iv h3 → Do PR w A (setItem ov iv v) h3 fun _ h4 => P4 h4) (k : ∀ h4, P4 h4 → Do PR w A (execs rest env) h4 R) (hs : swapsWith value (some (.Subscript o i pos')) pos.line env = pure false := by rfl) : Do PR w A (execs (.Assign [.Subscript o i pos'] value pos :: rest) env) h R := fun s Q E e q =>
  wpAny_execs_cons (wpAny_Assign_Subscript (dv s _ E e fun v h1 tk p => dO v h1 p _ _ E rfl fun ov h2 tk2 p2 => by
    obtain ⟨T, di, ds⟩ := p2
    exact di _ _ E rfl fun iv h3 tk3 p3 => ds iv h3 p3 _ _ E rfl fun _ h4 tk4 p4 => k h4 p4 _ Q E rfl fun v h' tk r => q v h' tk r) hs)
theorem DoSetItem {l : Addr} {items : Array Value} {k : Int} {t : Tok} {v : Value} (hl : h.IsList l items) (h0 : 0 ≤ k) (h1 : k < 2 ^ 63) (hn : k < items.size) :
    Do PR w A (setItem (.ref l) (.int k t) v) h fun _ h' => h'.IsList l (items.setIfInBounds k.toNat v) ∧ Heap.SameBut l h h' := fun s Q E e q => by
  subst e
  exact wpAny_setItem_list hl h0 h1 hn fun h' a b => q () h' s.toks ⟨a, b⟩
-- l[k] = a pure value, all three parts pure
theorem Ds.setItemP {o i value : Expr} {pos' pos : Pos} {rest : List Stmt} {l : Addr} {items : Array Value} {k : Int} {d : D} {R : Flow → Heap → Prop} (hl : h.IsList l items) (h0 : 0 ≤ k) (h1 : k < 2 ^ 63) (hn : k < items.size) (dv : Pe PR w A value env h d) (dO : Pe PR w A o env h (.ref l)) (di : Pe PR w A i env h (.int k))
    (go : ∀ v h4, d.Is v → h4.IsList l (items.setIfInBounds k.toNat v) → Heap.SameBut l h h4 → Do PR w A (execs rest env) h4 R) (hs : swapsWith value (some (.Subscript o i pos')) pos.line env = pure false := by rfl) : Do PR w A (execs (.Assign [.Subscript o i pos'] value pos :: rest) env) h R :=
  Ds.setItem (hs := hs) (P4 := fun h4 => X1 (fun v => C3 (d.Is v) (h4.IsList l (items.setIfInBounds k.toNat v)) (Heap.SameBut l h h4))) dv (fun v h1' p => by
    revert h1' p; refine i1 fun hd => ?_
    exact dO.mono fun ov h2 p2 => by
      revert ov h2 p2; refine i2 ?_
      exact ⟨_, di, fun iv h3 p3 => by
        revert iv h3 p3; refine i2t fun t => ?_
        exact (DoSetItem hl h0 h1 hn).mono fun _ h4 z => ⟨v, hd, z.1, z.2⟩⟩) fun h4 ⟨v, hd, a, b⟩ => go v h4 hd a b
-- a field stored
noncomputable def othersOf (h : Heap) (L d : Addr) : List (Addr × Obj) := (List.range h.objs.size).filterMap fun b => if b = L ∨ b = d then none else (h.get? b).map fun o => (b, o)
theorem othersOf_mem {h : Heap} {L d b : Addr} {o : Obj} : (b, o) ∈ othersOf h L d ↔ h.get? b = some o ∧ b ≠ L ∧ b ≠ d := by
  unfold othersOf
  rw [List.mem_filterMap]
  constructor
  · rintro ⟨c, _, e⟩
    split at e
    · cases e
    · rename_i hc
      obtain ⟨o', ho, e⟩ := Option.map_eq_some_iff.mp e
      cases e
      exact ⟨ho, fun q => hc (.inl q), fun q => hc (.inr q)⟩
  · rintro ⟨e, h1, h2⟩
    exact ⟨b, List.mem_range.mpr (Heap.lt_size e), by rw [if_neg (by rintro (q | q); exact h1 q; exact h2 q), e]; rfl⟩
noncomputable def noHeap : Heap := {}
theorem noHeap_get (b : Addr) : noHeap.get? b = none := by
  unfold Heap.get? noHeap
  simp
-- class C lets attr be stored into its instances' own dicts
noncomputable def ownStore (K : Frag) (C : Addr) (attr : Str) : Bool := findIn K (.ref C) "__setattr__" == some (some (.builtin "object.__setattr__")) && plainOver K C && takerIn K C attr == some .none && (clsIn K C).any (·.hasDict)
theorem DoSetAttr {x C dx L : Addr} {es : List DictEntry} {n : Nat} {attr : Str} {v : Value} {m : Str → Option Value} (B : Ok K h) (I : Inst h x C dx es n) (hn : h.Ns L m) (hL : dx ≠ L) (hc : ownStore K C attr = true) (hg : (getL attr es).isSome = true) (hz : es.length ≤ 100) :
    Do PR w A (setAttr (.ref x) attr v) h fun _ h' => h'.Ns L m ∧ (∀ b o, b ≠ L → b ≠ dx → h.get? b = some o → h'.get? b = some o) ∧ ∃ t, h'.get? dx = some (dictOf (putL attr (PyData.keyHash w.params attr) (.str attr t) v es) (putN attr es n)) := fun s Q E e q => by
  subst e
  simp only [ownStore, Bool.and_eq_true, beq_iff_eq] at hc
  obtain ⟨⟨⟨c1, c2⟩, c3⟩, c4⟩ := hc
  have F : Fr noHeap L s.heap m := ⟨hn, fun b o e => (by rw [noHeap_get] at e; cases e), Nat.zero_le _⟩
  have N : News noHeap L s.heap ([] ++ (dx, dictOf es n) :: othersOf s.heap L dx) := fun p hp => by
    revert p hp; refine Mine.allc ?_ fun p hp => ?_
    · exact ⟨I.d, hL, noHeap_get _⟩
    · obtain ⟨b, o⟩ := p
      have z := othersOf_mem.mp hp
      exact ⟨z.1, z.2.1, noHeap_get _⟩
  refine set_plain B.k I.at c1 (osa_dict (s := { s with toks := s.toks + 1 }) F N B.k I.at rfl c2 c3 c4 hg (fun _ hp => nomatch hp) (fun p hp => ?_) (putName_dict _ _ _ _ _ _) rfl ?_ fun h' F' N' => ?_)
  · obtain ⟨b, o⟩ := p
    exact (othersOf_mem.mp hp).2.2
  · have : ∀ l : List DictEntry, (putL attr (PyData.keyHash w.params attr) (.str attr (s.toks + 1)) v l).length ≤ l.length + 1 := by
      intro l
      induction l with
      | nil => simp [putL]
      | cons a r ih => unfold putL; split <;> simp <;> omega
    exact Nat.le_trans (this es) (Nat.le_trans (Nat.succ_le_succ hz) (by decide))
  · exact q () h' _ ⟨F'.ns, fun b o h1 h2 e => (N' (b, o) (.tail _ (othersOf_mem.mpr ⟨e, h1, h2⟩))).1, _, (N' _ (.head _)).1⟩
theorem Ds.setAttr {o value : Expr} {attr : Str} {pos' pos : Pos} {rest : List Stmt} {P : Value → Heap → Prop} {P4 : Heap → Prop} {R : Flow → Heap → Prop} (dv : Do PR w A (eval value env) h P) (dO : ∀ v h1, P v h1 → Do PR w A (eval o env) h1 fun ov h2 => Do PR w A (setAttr ov attr v) h2 fun _ h4 => P4 h4) (k : ∀ h4, P4 h4 → Do PR w A (execs rest env) h4 R) (hs : swapsWith value (some (.Attribute o attr pos')) pos.line env = pure false := by rfl) : Do PR w A (execs (.Assign [.Attribute o attr pos'] value pos :: rest) env) h R := fun s Q E e q =>
  wpAny_execs_cons (plainObj_wpAny_Assign_Attribute (dv s _ E e fun v h1 tk p => dO v h1 p _ _ E rfl fun ov h2 tk2 p2 => p2 _ _ E rfl fun _ h4 tk4 p4 => k h4 p4 _ Q E rfl fun v h' tk r => q v h' tk r) hs)
-- a def called
inductive Zip : List (Str × D) → List (Str × Value) → Prop
  | nil : Zip [] []
  | cons {x d v l b} : D.Is d v → Zip l b → Zip ((x, d) :: l) ((x, v) :: b)
theorem Zip.look {l : List (Str × D)} {b : List (Str × Value)} (z : Zip l b) (x : Str) (d : D) : l.lookup x = some d → ∃ v, b.lookup x = some v ∧ d.Is v := by
  induction z with
  | nil => exact fun e => nomatch e
  | @cons y _ _ _ _ hd z ih =>
    rw [List.lookup_cons, List.lookup_cons]
    cases x == y with
    | true => exact fun e => ⟨_, rfl, Option.some.inj e ▸ hd⟩
    | false => exact ih
noncomputable def retOf : Flow → Value
  | .ret v => v
  | _ => .none
theorem DoDef {name qual : Str} {params : Arguments} {body : List Stmt} {scope : Scope} {dV kV doc pm cdv ct oc : Value} {an od : Option Addr} {osl : Array (Option Value)} {f : Addr} {args : PySem.Args} {binds : List (Str × Value)} {l : List (Str × D)} {P : Value → Heap → Prop}
    (B : Ok K h) (ho : K.lookup f = some ⟨oc, od, .func (fnOf name qual params body scope dV kV doc pm an cdv ct), osl⟩) (hcd : codeIn K cdv qual = true) (hroom : A.depth < recursionLimit)
    (hbind : ∀ s : Shared, s.heap = h → BindsTo s (fnOf name qual params body scope dV kV doc pm an cdv ct) args binds) (hloc : ∀ y ∈ binds, scope.names.lookup y.1 = some .local) (hz : Zip l binds.reverse)
    (hco : scope.isCoroutine = false) (hgen : scope.isGenerator = false) (hk : scope.kind = .function) (hcell : ∀ x ∈ scope.names, x.2 ≠ .cell)
    (go : ∀ L h1, Bd h L l h1 → Do PR w (A.deeper (envOf qual scope L f cdv)) (execs body (envOf qual scope L f cdv)) h1 fun fl h' => P (retOf fl) h') : Do PR w A (call (.ref f) args.pos args.kw) h P := fun s Q E e q => by
  subst e
  obtain ⟨p, loose, mg, mb, T⟩ := B.top
  refine wpAny_call (codeAny_call_def (fd := fnOf name qual params body scope dV kV doc pm an cdv ct) (body := body) (binds := binds) hroom (B.k _ _ ho) rfl T.nolimit (codeRec_of B.k hcd) rfl (hbind s rfl) hcell hloc (fun h₁ hns hk₁ => ?_) hco hgen hk)
  have own : s.heap.get? s.heap.objs.size = none := by
    cases z : s.heap.get? s.heap.objs.size with
    | none => rfl
    | some o => exact absurd (Heap.lt_size z) (Nat.lt_irrefl _)
  exact go s.heap.objs.size h₁ ⟨⟨_, hns, hz.look⟩, hk₁, own⟩ _ _ _ rfl fun fl h' tk r => by
    have := q (retOf fl) h' tk r
    cases fl <;> exact this
end
end Mine
end

-- World
section
open PySem PySem.W PySem.Calls PyProof.Rows PySem.Spec PySem.SeqAt
set_option tactic.hygienic false
namespace Mine
-- one of the law's rows: a state, what is waited for, an answer
structure Row where
  st : Str
  wt : Option Int
  an : Option Int
noncomputable def wtD : Option Int → PyData
  | .none => .none
  | .some k => .tuple [.str "waits", .int k]
noncomputable def anD : Option Int → PyData
  | .none => .none
  | .some k => .int k
noncomputable def rowD (r : Row) : PyData := .list [.str r.st, wtD r.wt, anD r.an]
noncomputable def tupObj (vs : Array Value) (n : Nat) : Obj := { cls := .type "tuple", data := .seq vs n }
noncomputable def WtAt (h : Heap) (v : Value) : Option Int → Prop
  | .none => v = .none
  | .some k => X4 (fun t u tk n => v = .ref t ∧ h.get? t = some (tupObj #[.str "waits" u, .int k tk] n))
noncomputable def AnIs (v : Value) : Option Int → Prop
  | .none => v = .none
  | .some k => ∃ t, v = .int k t
-- all that stood and is no dict, no frame, no list stands
noncomputable def Tups (h h' : Heap) : Prop := ∀ b vs n, h.get? b = some (tupObj vs n) → h'.get? b = some (tupObj vs n)
theorem WtAt.off {h h' : Heap} {v : Value} {o : Option Int} (x : WtAt h v o) (k : Tups h h') : WtAt h' v o := by
  cases o with
  | none => exact x
  | some i => obtain ⟨t, u, tk, n, e, g⟩ := x; exact ⟨t, u, tk, n, e, k _ _ _ g⟩
theorem WtAt.reads {h : Heap} {v : Value} {o : Option Int} (x : WtAt h v o) : Reads h v (wtD o) [] := by
  cases o with
  | none => cases x; exact Reads.none
  | some i =>
    obtain ⟨t, u, tk, n, rfl, g⟩ := x
    exact reads_tuple_at g rfl rfl (readsAll_cons_val (Reads.str _ _) (readsAll_cons_val (Reads.int _ _) ReadsAll.nil))
theorem AnIs.reads {h : Heap} {v : Value} {o : Option Int} (x : AnIs v o) : Reads h v (anD o) [] := by
  cases o with
  | none => cases x; exact Reads.none
  | some i => obtain ⟨t, rfl⟩ := x; exact Reads.int _ _
theorem WtAt.handed {h : Heap} {v : Value} {o : Option Int} (x : WtAt h v o) : handedIn v = true := by
  cases o with
  | none => cases x; rfl
  | some i => obtain ⟨t, u, tk, n, rfl, g⟩ := x; rfl
theorem AnIs.handed {v : Value} {o : Option Int} (x : AnIs v o) : handedIn v = true := by
  cases o with
  | none => cases x; rfl
  | some i => obtain ⟨t, rfl⟩ := x; rfl
theorem Tups.ofStays {h h' : Heap} (k : h.StaysIn h') : Tups h h' := fun b _ _ e => k b _ e
-- all but X stands
noncomputable def Off (X : List Addr) (h h' : Heap) : Prop := ∀ b o, h.get? b = some o → b ∉ X → h'.get? b = some o
theorem Off.nil {h h' : Heap} (k : h.StaysIn h') : Off [] h h' := fun b o e _ => k b o e
theorem Off.mono {X Y : List Addr} {h h' : Heap} (k : Off X h h') (s : ∀ b ∈ X, b ∈ Y) : Off Y h h' := fun b o e n => k b o e fun q => n (s b q)
theorem ne_of {h : Heap} {a b : Addr} {oa ob : Obj} (ha : h.get? a = some oa) (hb : h.get? b = some ob) (hne : oa.cls ≠ ob.cls) : a ≠ b := fun e => by
  rw [e, hb] at ha; cases ha; exact hne rfl

noncomputable def goEs (P : Params) (t1 t2 t3 t4 t5 : Tok) (nu st wf fr an : Value) : List DictEntry :=
  [⟨PyData.keyHash P "number", .str "number" t1, nu⟩, ⟨PyData.keyHash P "state", .str "state" t2, st⟩, ⟨PyData.keyHash P "waits_for", .str "waits_for" t3, wf⟩, ⟨PyData.keyHash P "frames", .str "frames" t4, fr⟩, ⟨PyData.keyHash P "answer", .str "answer" t5, an⟩]
noncomputable def scEs (P : Params) (t1 t2 t3 : Tok) (ch al he : Value) : List DictEntry :=
  [⟨PyData.keyHash P "choices", .str "choices" t1, ch⟩, ⟨PyData.keyHash P "all", .str "all" t2, al⟩, ⟨PyData.keyHash P "here", .str "here" t3, he⟩]
noncomputable def chEs (P : Params) (t1 t2 : Tok) (ro ta : Value) : List DictEntry := [⟨PyData.keyHash P "row", .str "row" t1, ro⟩, ⟨PyData.keyHash P "taken", .str "taken" t2, ta⟩]

structure GoAt (P : Params) (h : Heap) (g d : Addr) (i : Nat) (r : Row) : Prop where
  at_ : X8 (fun t1 t2 t3 t4 t5 ti ts wv => X3 (fun fr av n => C3 (Inst h g 71 d (goEs P t1 t2 t3 t4 t5 (.int i ti) (.str r.st ts) wv fr av) n) (WtAt h wv r.wt) (AnIs av r.an)))
noncomputable def hereVal (gs : List Addr) : Option Nat → Value
  | .none => .none
  | .some i => match gs[i]? with | some g => .ref g | .none => .none
structure Sched (P : Params) (h : Heap) (S dS C dC DG AL : Addr) (gs ds : List Addr) (grs : List Row) (here : Option Nat) (digits : List Int) (taken : Int) : Prop where
  s : X4 (fun t1 t2 t3 n => Inst h S 157 dS (scEs P t1 t2 t3 (.ref C) (.ref AL) (hereVal gs here)) n)
  c : X4 (fun t1 t2 tk n => Inst h C 185 dC (chEs P t1 t2 (.ref DG) (.int taken tk)) n)
  dg : ∃ vs, h.IsList DG vs.toArray ∧ IntsAre vs digits
  alp : h.PlainList AL (gs.map Value.ref).toArray
  lg : gs.length = grs.length
  ld : ds.length = grs.length
  go : ∀ (i : Nat) g d r, gs[i]? = some g → ds[i]? = some d → grs[i]? = some r → GoAt P h g d i r
  ap : AL ≠ DG
  lo : ∀ i, here = some i → i < grs.length
theorem Sched.al {P : Params} {h : Heap} {S dS C dC DG AL : Addr} {gs ds : List Addr} {grs : List Row} {here : Option Nat} {digits : List Int} {taken : Int} (x : Sched P h S dS C dC DG AL gs ds grs here digits taken) : h.IsList AL (gs.map Value.ref).toArray := x.alp.isList
noncomputable def RowAt (h : Heap) (a : Addr) (r : Row) : Prop := X3 (fun ts wv av => C3 (h.IsList a #[.str r.st ts, wv, av]) (WtAt h wv r.wt) (AnIs av r.an))
structure RowsAt (h : Heap) (R : Addr) (rs : List Addr) (rows : List Row) : Prop where
  rlp : h.PlainList R (rs.map Value.ref).toArray
  len : rs.length = rows.length
  ro : ∀ (i : Nat) a r, rs[i]? = some a → rows[i]? = some r → RowAt h a r
  nd : (R :: rs).Nodup
theorem RowsAt.rl {h : Heap} {R : Addr} {rs : List Addr} {rows : List Row} (x : RowsAt h R rs rows) : h.IsList R (rs.map Value.ref).toArray := x.rlp.isList
theorem RowAt.reads {h : Heap} {a : Addr} {r : Row} (x : RowAt h a r) : Reads h (.ref a) (rowD r) [a] := by
  obtain ⟨ts, wv, av, ⟨o, ho, hc, n, hd⟩, hw, ha⟩ := x
  exact reads_list_at ho hc hd (readsAll_cons_val (Reads.str _ _) (readsAll_cons_val hw.reads (readsAll_cons_val ha.reads ReadsAll.nil)))
theorem readsAll_rows {h : Heap} {rs : List Addr} {rows : List Row} (e : rs.length = rows.length) (k : ∀ (i : Nat) a r, rs[i]? = some a → rows[i]? = some r → RowAt h a r) : ∃ as, ReadsAll h (rs.map Value.ref) (rows.map rowD) as := by
  induction rs generalizing rows with
  | nil =>
    cases rows with
    | nil => exact ⟨_, ReadsAll.nil⟩
    | cons r rows => cases e
  | cons a rs ih =>
    cases rows with
    | nil => cases e
    | cons r rows =>
      obtain ⟨as, q⟩ := ih (Nat.succ.inj e) fun i a' r' h1 h2 => k (i + 1) a' r' h1 h2
      exact ⟨_, ReadsAll.cons (k 0 a r rfl rfl).reads q⟩
theorem RowsAt.reads {h : Heap} {R : Addr} {rs : List Addr} {rows : List Row} (x : RowsAt h R rs rows) : ∃ as, Reads h (.ref R) (.list (rows.map rowD)) as := by
  obtain ⟨o, ho, hc, n, hd⟩ := x.rl
  obtain ⟨as, q⟩ := readsAll_rows x.len x.ro
  exact ⟨_, reads_list_at ho hc hd (by simpa using q)⟩
-- what stands
theorem IsList_off {h h' : Heap} {a : Addr} {items : Array Value} {X : List Addr} (x : h.IsList a items) (k : Off X h h') (ha : a ∉ X) : h'.IsList a items := let ⟨o, ho, r⟩ := x; ⟨o, k _ _ ho ha, r⟩
theorem GoAt.keeps {P : Params} {h h' : Heap} {g d : Addr} {i : Nat} {r : Row} (x : GoAt P h g d i r) (k : h.StaysIn h') : GoAt P h' g d i r := by
  obtain ⟨t1, t2, t3, t4, t5, ti, ts, wv, fr, av, n, I, hw, ha⟩ := x.at_
  exact ⟨t1, t2, t3, t4, t5, ti, ts, wv, fr, av, n, I.keeps k, hw.off (.ofStays k), ha⟩
theorem Sched.keeps {P : Params} {h h' : Heap} {S dS C dC DG AL : Addr} {gs ds : List Addr} {grs : List Row} {here : Option Nat} {digits : List Int} {taken : Int} (x : Sched P h S dS C dC DG AL gs ds grs here digits taken) (k : h.StaysIn h') :
    Sched P h' S dS C dC DG AL gs ds grs here digits taken where
  s := let ⟨t1, t2, t3, n, I⟩ := x.s; ⟨t1, t2, t3, n, I.keeps k⟩
  c := let ⟨t1, t2, tk, n, I⟩ := x.c; ⟨t1, t2, tk, n, I.keeps k⟩
  dg := let ⟨vs, a, b⟩ := x.dg; ⟨vs, stays_list' k a, b⟩
  alp := x.alp.at fun o e => k _ o e
  lg := x.lg
  ld := x.ld
  go := fun i g d r a b c => (x.go i g d r a b c).keeps k
  ap := x.ap
  lo := x.lo
where stays_list' {h h' : Heap} {l : Addr} {items : Array Value} (k : h.StaysIn h') (x : h.IsList l items) : h'.IsList l items := let ⟨o, ho, r⟩ := x; ⟨o, k l o ho, r⟩
end Mine
end

-- World2
section
open PySem PySem.W PySem.Calls PyProof.Rows PySem.Spec PySem.SeqAt
set_option tactic.hygienic false
namespace Mine
section
variable {P : Params} {h h' : Heap} {S dS C dC DG AL : Addr} {gs ds : List Addr} {grs : List Row} {here : Option Nat} {digits : List Int} {taken : Int}
-- all but the object at d stands
noncomputable def But (d : Addr) (h h' : Heap) : Prop := ∀ b o, b ≠ d → h.get? b = some o → h'.get? b = some o
theorem But.list {d a : Addr} {items : Array Value} (k : But d h h') (hd : a ≠ d) (x : h.IsList a items) : h'.IsList a items := let ⟨o, e, r⟩ := x; ⟨o, k a o hd e, r⟩
theorem But.plain {d a : Addr} {items : Array Value} (k : But d h h') (hd : a ≠ d) (x : h.PlainList a items) : h'.PlainList a items := x.at fun o e => k a o hd e
theorem But.inst {d x c dx : Addr} {es : List DictEntry} {n : Nat} (k : But d h h') (hx : x ≠ d) (hd : dx ≠ d) (I : Inst h x c dx es n) : Inst h' x c dx es n := ⟨k _ _ hx I.o, k _ _ hd I.d⟩
theorem But.wt {d : Addr} {od : Obj} {v : Value} {o : Option Int} (k : But d h h') (hd : h.get? d = some od) (hc : od.cls ≠ .type "tuple") (x : WtAt h v o) : WtAt h' v o := x.off fun b vs n e => k b _ (fun q => by subst q; rw [hd] at e; cases e; exact hc rfl) e
theorem list_ne {d a : Addr} {od : Obj} {items : Array Value} (x : h.IsList a items) (hd : h.get? d = some od) (hc : od.cls ≠ .type "list") : a ≠ d := fun q => by
  subst q
  obtain ⟨o, e, c, _⟩ := x
  rw [hd] at e; cases e; exact hc c
theorem dict_ne {x c dx d : Addr} {es es' : List DictEntry} {n n' : Nat} (I : Inst h x c dx es n) (hd : h.get? d = some (dictOf es' n')) (hne : es ≠ es') : dx ≠ d := fun q => by
  have := I.d
  rw [q, hd] at this
  simp only [Option.some.injEq, Obj.mk.injEq, Data.dict.injEq] at this
  have e : es'.toArray = es.toArray := by first | exact this.2.2.1.1 | exact this.1.1 | exact this.1
  exact hne (by simpa using (congrArg Array.toList e).symm)
theorem inst_ne {x c dx d : Addr} {es es' : List DictEntry} {n n' : Nat} (I : Inst h x c dx es n) (hd : h.get? d = some (dictOf es' n')) : x ≠ d := fun q => by
  have := I.o
  rw [q, hd] at this
  cases this
-- one goroutine's own dict has changed
theorem Sched.turn (x : Sched P h S dS C dC DG AL gs ds grs here digits taken) {i : Nat} {g d : Addr} {r r' : Row} (hg : gs[i]? = some g) (hd : ds[i]? = some d) (hr : grs[i]? = some r) (k : But d h h') (new : GoAt P h' g d i r') :
    Sched P h' S dS C dC DG AL gs ds (grs.set i r') here digits taken := by
  obtain ⟨t1, t2, t3, t4, t5, ti, ts, wv, fr, av, n, I, hw, ha⟩ := (x.go i g d r hg hd hr).at_
  have hi : i < grs.length := (List.getElem?_eq_some_iff.mp hr).1
  refine ⟨?_, ?_, ?_, ?_, ?_, ?_, ?_, x.ap, ?_⟩
  · obtain ⟨u1, u2, u3, m, J⟩ := x.s
    exact ⟨u1, u2, u3, m, k.inst (inst_ne J I.d) (dict_ne J I.d (by intro q; simp [scEs, goEs] at q)) J⟩
  · obtain ⟨u1, u2, tk, m, J⟩ := x.c
    exact ⟨u1, u2, tk, m, k.inst (inst_ne J I.d) (dict_ne J I.d (by intro q; simp [chEs, goEs] at q)) J⟩
  · obtain ⟨vs, a, b⟩ := x.dg
    exact ⟨vs, k.list (list_ne a I.d (by first | exact List.mem_append_left _ (.head _) | exact List.mem_append_left _ (.tail _ (.head _)) | exact List.mem_append_left _ (.tail _ (.tail _ (.head _))) | exact List.mem_append_left _ (.tail _ (.tail _ (.tail _ (.head _)))) | exact .head _ | exact .tail _ (.head _) | simp)) a, b⟩
  · exact k.plain (list_ne x.al I.d (by first | exact List.mem_append_left _ (.head _) | exact List.mem_append_left _ (.tail _ (.head _)) | exact List.mem_append_left _ (.tail _ (.tail _ (.head _))) | exact List.mem_append_left _ (.tail _ (.tail _ (.tail _ (.head _)))) | exact .head _ | exact .tail _ (.head _) | simp)) x.alp
  · rw [List.length_set]; exact x.lg
  · rw [List.length_set]; exact x.ld
  · intro j g2 d2 r2 h1 h2 h3
    by_cases hj : i = j
    · subst hj
      rw [hg] at h1; rw [hd] at h2
      cases h1; cases h2
      rw [List.getElem?_set_self hi] at h3
      cases h3
      exact new
    · rw [List.getElem?_set_ne hj] at h3
      obtain ⟨u1, u2, u3, u4, u5, ui, us, wv2, fr2, av2, m, J, hw2, ha2⟩ := (x.go j g2 d2 r2 h1 h2 h3).at_
      refine ⟨u1, u2, u3, u4, u5, ui, us, wv2, fr2, av2, m, k.inst (inst_ne J I.d) (dict_ne J I.d ?_) J, k.wt I.d (by first | exact List.mem_append_left _ (.head _) | exact List.mem_append_left _ (.tail _ (.head _)) | exact List.mem_append_left _ (.tail _ (.tail _ (.head _))) | exact List.mem_append_left _ (.tail _ (.tail _ (.tail _ (.head _)))) | exact .head _ | exact .tail _ (.head _) | simp) hw2, ha2⟩
      intro q
      simp only [goEs, List.cons.injEq, DictEntry.mk.injEq, Value.int.injEq] at q
      exact hj (Int.ofNat.inj q.1.2.2.1.symm)
  · intro j hj
    rw [List.length_set]; exact x.lo j hj
end
end Mine
end

-- World3
section
open PySem PySem.W PySem.Calls PyProof.Rows PySem.Spec PySem.SeqAt
set_option tactic.hygienic false
namespace Mine
section
variable {P : Params} {h h' : Heap} {S dS C dC DG AL : Addr} {gs ds : List Addr} {grs : List Row} {here : Option Nat} {digits : List Int} {taken : Int}
theorem GoAt.but {d : Addr} {es : List DictEntry} {n' : Nat} {g dg : Addr} {i : Nat} {r : Row} (x : GoAt P h g dg i r) (k : But d h h') (hd : h.get? d = some (dictOf es n')) (hne : ∀ t1 t2 t3 t4 t5 a b c e f, goEs P t1 t2 t3 t4 t5 a b c e f ≠ es) : GoAt P h' g dg i r := by
  obtain ⟨u1, u2, u3, u4, u5, ui, us, wv, fr, av, m, J, hw, ha⟩ := x.at_
  exact ⟨u1, u2, u3, u4, u5, ui, us, wv, fr, av, m, k.inst (inst_ne J hd) (dict_ne J hd (hne _ _ _ _ _ _ _ _ _ _)) J, k.wt hd (by first | exact List.mem_append_left _ (.head _) | exact List.mem_append_left _ (.tail _ (.head _)) | exact List.mem_append_left _ (.tail _ (.tail _ (.head _))) | exact List.mem_append_left _ (.tail _ (.tail _ (.tail _ (.head _)))) | exact .head _ | exact .tail _ (.head _) | simp) hw, ha⟩
-- another one is at hand
theorem Sched.goHere (x : Sched P h S dS C dC DG AL gs ds grs here digits taken) {here' : Option Nat} (k : But dS h h') (new : X4 (fun t1 t2 t3 n => h'.get? dS = some (dictOf (scEs P t1 t2 t3 (.ref C) (.ref AL) (hereVal gs here')) n))) (hl : ∀ i, here' = some i → i < grs.length) :
    Sched P h' S dS C dC DG AL gs ds grs here' digits taken := by
  obtain ⟨t1, t2, t3, n, I⟩ := x.s
  refine ⟨?_, ?_, ?_, k.plain (list_ne x.al I.d (by first | exact List.mem_append_left _ (.head _) | exact List.mem_append_left _ (.tail _ (.head _)) | exact List.mem_append_left _ (.tail _ (.tail _ (.head _))) | exact List.mem_append_left _ (.tail _ (.tail _ (.tail _ (.head _)))) | exact .head _ | exact .tail _ (.head _) | simp)) x.alp, x.lg, x.ld, ?_, x.ap, hl⟩
  · obtain ⟨u1, u2, u3, m, e⟩ := new
    exact ⟨u1, u2, u3, m, k _ _ (inst_ne I I.d) I.o, e⟩
  · obtain ⟨u1, u2, tk, m, J⟩ := x.c
    exact ⟨u1, u2, tk, m, k.inst (inst_ne J I.d) (dict_ne J I.d (by intro q; simp [chEs, scEs] at q)) J⟩
  · obtain ⟨vs, a, b⟩ := x.dg
    exact ⟨vs, k.list (list_ne a I.d (by first | exact List.mem_append_left _ (.head _) | exact List.mem_append_left _ (.tail _ (.head _)) | exact List.mem_append_left _ (.tail _ (.tail _ (.head _))) | exact List.mem_append_left _ (.tail _ (.tail _ (.tail _ (.head _)))) | exact .head _ | exact .tail _ (.head _) | simp)) a, b⟩
  · exact fun j g d r h1 h2 h3 => (x.go j g d r h1 h2 h3).but k I.d fun _ _ _ _ _ _ _ _ _ _ q => by simp [goEs, scEs] at q
-- one more choice is taken
theorem Sched.goTaken (x : Sched P h S dS C dC DG AL gs ds grs here digits taken) {taken' : Int} (k : But dC h h') (new : X4 (fun t1 t2 tk n => h'.get? dC = some (dictOf (chEs P t1 t2 (.ref DG) (.int taken' tk)) n))) :
    Sched P h' S dS C dC DG AL gs ds grs here digits taken' := by
  obtain ⟨t1, t2, tk, n, I⟩ := x.c
  refine ⟨?_, ?_, ?_, k.plain (list_ne x.al I.d (by first | exact List.mem_append_left _ (.head _) | exact List.mem_append_left _ (.tail _ (.head _)) | exact List.mem_append_left _ (.tail _ (.tail _ (.head _))) | exact List.mem_append_left _ (.tail _ (.tail _ (.tail _ (.head _)))) | exact .head _ | exact .tail _ (.head _) | simp)) x.alp, x.lg, x.ld, ?_, x.ap, x.lo⟩
  · obtain ⟨u1, u2, u3, m, J⟩ := x.s
    exact ⟨u1, u2, u3, m, k.inst (inst_ne J I.d) (dict_ne J I.d (by intro q; simp [chEs, scEs] at q)) J⟩
  · obtain ⟨u1, u2, u3, m, e⟩ := new
    exact ⟨u1, u2, u3, m, k _ _ (inst_ne I I.d) I.o, e⟩
  · obtain ⟨vs, a, b⟩ := x.dg
    exact ⟨vs, k.list (list_ne a I.d (by first | exact List.mem_append_left _ (.head _) | exact List.mem_append_left _ (.tail _ (.head _)) | exact List.mem_append_left _ (.tail _ (.tail _ (.head _))) | exact List.mem_append_left _ (.tail _ (.tail _ (.tail _ (.head _)))) | exact .head _ | exact .tail _ (.head _) | simp)) a, b⟩
  · exact fun j g d r h1 h2 h3 => (x.go j g d r h1 h2 h3).but k I.d fun _ _ _ _ _ _ _ _ _ _ q => by simp [goEs, chEs] at q
theorem hereVal_push {g : Addr} (hl : ∀ i, here = some i → i < gs.length) : hereVal (gs ++ [g]) here = hereVal gs here := by
  cases here with
  | none => rfl
  | some i =>
    have := hl i rfl
    simp only [hereVal]
    rw [List.getElem?_append_left this]
-- one more goroutine is on the list
theorem Sched.push (x : Sched P h S dS C dC DG AL gs ds grs here digits taken) {g d : Addr} {r : Row} (k : But AL h h') (al : h'.PlainList AL ((gs.map Value.ref).toArray.push (.ref g))) (new : GoAt P h' g d gs.length r) :
    Sched P h' S dS C dC DG AL (gs ++ [g]) (ds ++ [d]) (grs ++ [r]) here digits taken := by
  obtain ⟨oA, eA, cA, nA, dA⟩ := id x.al
  have no : ∀ {b : Addr} {o : Obj}, h.get? b = some o → o.cls ≠ .type "list" → b ≠ AL := fun e hc q => by subst q; rw [eA] at e; cases e; exact hc cA
  have keepI : ∀ {a c dx : Addr} {es : List DictEntry} {n : Nat}, Inst h a c dx es n → Inst h' a c dx es n := fun J => k.inst (no J.o (by first | exact List.mem_append_left _ (.head _) | exact List.mem_append_left _ (.tail _ (.head _)) | exact List.mem_append_left _ (.tail _ (.tail _ (.head _))) | exact List.mem_append_left _ (.tail _ (.tail _ (.tail _ (.head _)))) | exact .head _ | exact .tail _ (.head _) | simp)) (no J.d (by first | exact List.mem_append_left _ (.head _) | exact List.mem_append_left _ (.tail _ (.head _)) | exact List.mem_append_left _ (.tail _ (.tail _ (.head _))) | exact List.mem_append_left _ (.tail _ (.tail _ (.tail _ (.head _)))) | exact .head _ | exact .tail _ (.head _) | simp)) J
  refine ⟨?_, ?_, ?_, ?_, ?_, ?_, ?_, x.ap, ?_⟩
  · obtain ⟨u1, u2, u3, m, J⟩ := x.s
    rw [hereVal_push (fun i e => x.lg ▸ x.lo i e)]
    exact ⟨u1, u2, u3, m, keepI J⟩
  · obtain ⟨u1, u2, tk, m, J⟩ := x.c
    exact ⟨u1, u2, tk, m, keepI J⟩
  · obtain ⟨vs, a, b⟩ := x.dg
    exact ⟨vs, k.list (Ne.symm x.ap) a, b⟩
  · simpa using al
  · simp [x.lg]
  · simp [x.ld]
  · intro j g2 d2 r2 h1 h2 h3
    by_cases hj : j < gs.length
    · have h1 := app_lt hj h1
      have h2 := app_lt (by rw [x.ld, ← x.lg]; exact hj) h2
      have h3 := app_lt (by rw [← x.lg]; exact hj) h3
      obtain ⟨u1, u2, u3, u4, u5, ui, us, wv, fr, av, m, J, hw, ha⟩ := (x.go j g2 d2 r2 h1 h2 h3).at_
      exact ⟨u1, u2, u3, u4, u5, ui, us, wv, fr, av, m, keepI J, k.wt eA (by rw [cA]; simp) hw, ha⟩
    · have hj' := app_len hj h1
      have e1 := app_eq hj' h1
      have e2 := app_eq (hj'.trans (x.lg.trans x.ld.symm)) h2
      have e3 := app_eq (hj'.trans x.lg) h3
      subst hj'
      subst e1 e2 e3
      exact new
  · intro i e
    rw [List.length_append]
    exact Nat.lt_succ_of_lt (x.lo i e)
end
end Mine
end

-- KP
section
open PySem PySem.W PySem.Calls PyProof.Rows
set_option tactic.hygienic false
namespace Mine
-- what is written out, but for the table of _law_deed's lambdas
noncomputable def KP (P : Params) : Frag := (hd.heap_242 P).filter fun p => p.1 != 229
theorem lookup_filter {a : Nat} : ∀ {l : List (Nat × Obj)}, (a != 229) = true → List.lookup a (l.filter fun p => p.1 != 229) = List.lookup a l
  | [], _ => rfl
  | (b, o) :: l, h => by
    have ih := lookup_filter (l := l) h
    rw [List.filter_cons]
    split
    · rw [List.lookup_cons, List.lookup_cons, ih]
    · rename_i hb
      rw [ih, List.lookup_cons]
      have : (a == b) = false := by
        simp at hb h ⊢
        omega
      rw [this]
theorem kp_look {P : Params} {a : Nat} {r : Option Obj} (e : List.lookup a (hd.heap_242 P) = r) (h : (a != 229) = true) : List.lookup a (KP P) = r := (lookup_filter h).trans e
theorem kp_ns {P : Params} {a : Nat} {x : Str} {r : Option (Option Value)} (e : nsIn (hd.heap_242 P) a x = r) (h : (a != 229) = true) : nsIn (KP P) a x = r := by
  unfold nsIn at e ⊢
  rw [show List.lookup a (KP P) = List.lookup a (hd.heap_242 P) from lookup_filter h]
  exact e
end Mine
end

-- Take
section
open PySem PySem.W PySem.Calls PyProof.Rows
set_option tactic.hygienic false
namespace Mine
noncomputable abbrev PR : Program := PySem.Challenge.rw_on0006_01.row.prog
section
variable {PR : Program} {w : World} {A : Around} {env : Env} {h : Heap} {K : Frag}
theorem AreD.one {d : D} {vs : List Value} (x : AreD [d] vs) : ∃ v, vs = [v] ∧ d.Is v := by
  cases x with
  | cons hd q => cases q; exact ⟨_, rfl, hd⟩
theorem AreD.two {d e : D} {vs : List Value} (x : AreD [d, e] vs) : X2 (fun v u => C3 (vs = [v, u]) (d.Is v) (e.Is u)) := by
  cases x with
  | cons hd q => obtain ⟨u, rfl, hu⟩ := q.one; exact ⟨_, _, rfl, hd, hu⟩
theorem Pe.int1 {x : Expr} {np pos : Pos} {n : Int} (B : Ok K h) (e : nsIn K mainGlobals "int" = some .none) (d : Pe PR w A x env h (.int n)) (hg : env.globals = mainGlobals := by rfl) (hb : env.builtins = builtinsNs := by rfl) (hk : env.scope.kind = .function := by rfl) (hx : env.kindOf "int" = some .globalImplicit := by rfl)
    (he : starEach [x] env = (false, eval x env) :: starEach [] env := by rfl) : Pe PR w A (.Call (.Name "int" np) [x] [] pos) env h (.int n) :=
  Do.callName (Do.builtin B e (v := .type "int") (by boot_fast) (by decide) hg hb hk hx) fun u h1 p => by
    revert u h1 p; refine i2 ?_
    refine DoCallWith (K := K) Callable.type (Args.plain1 (he := he) d Args.plain0) (fun vs h2 p => ?_) (he := he)
    revert h2 p; refine i1 fun p => ?_
    obtain ⟨v, rfl, t, rfl⟩ := p.one
    exact ⟨B, fun s Q E e q => call_int_int (Do.now e q ⟨rfl, _, rfl⟩)⟩
end
theorem low_ne {a b : Addr} (ha : a < 254) (hb : 254 ≤ b) : a ≠ b := fun e => absurd (e ▸ ha) (Nat.not_lt.mpr hb)
theorem gl_int {P : Params} : nsIn (KP P) mainGlobals "int" = some .none := by (first | (with_reducible apply Mine.kp_look; (focus k_is); decide) | (with_reducible apply Mine.kp_ns; (focus k_is); decide) | kernel_rfl)
theorem small_pylong {a b : Int} (h : b.natAbs < 2 ^ 64) : Builtin.divisionGoesByPylong a b = false := by
  unfold Builtin.divisionGoesByPylong
  have : b.natAbs.log2 < 64 := by
    by_cases z : b.natAbs = 0
    · rw [z]; decide
    · exact (Nat.log2_lt z).mpr h
  have : (if b == 0 then 0 else b.natAbs.log2 / 30 + 1) ≤ 300 := by
    split
    · exact Nat.zero_le _
    · exact Nat.succ_le_succ (Nat.le_trans (Nat.div_le_self _ _) (Nat.le_trans (Nat.le_of_lt this) (by decide)))
  simp only [Bool.and_eq_false_iff, decide_eq_false_iff_not]
  left
  exact Nat.not_lt.mpr this
-- the two numbers that the law draws from
structure Src (h : Heap) (src : Addr) (a b : Int) : Prop where
  hi : 254 ≤ src
  l : ∃ ta tb, h.IsList src #[.int a ta, .int b tb]
  a0 : 0 ≤ a
  b0 : 0 ≤ b
  b1 : b < 2147483647
theorem take_spec {w : World} {A : Around} {h : Heap} {src : Addr} {a b' top : Int} {tt : Tok} (B : Ok (KP w.params) h) (am : A.depth + 1 < recursionLimit) (S : Src h src a b') (h0 : 0 < top) (h1 : top < 2 ^ 63) :
    Do PR w A (call (.ref 203) [.ref src, .int top tt] []) h fun v h' => X4 (fun r t a₁ b₁ => C5 (v = .int r t) (0 ≤ r) (r < top) (Src h' src a₁ b₁) (∀ c o, c ≠ src → h.get? c = some o → h'.get? c = some o)) := by
  obtain ⟨hi, ⟨ta, tb, hl⟩, a0, b0, b1⟩ := S
  refine' DoDef (args := ⟨[.ref src, .int top tt], []⟩) (binds := [("source", .ref src), ("top", .int top tt)]) (l := [("top", .int top), ("source", .ref src)]) B ?ho ?hcd (by with_reducible first | exact Int.natCast_nonneg _ | exact z63 (by assumption) (by assumption) | exact z65 (by assumption) (by assumption) | exact zn (by assumption) | exact le5 (by assumption) (by assumption) | exact Int.ofNat_lt.mpr (by assumption) | exact Nat.le_of_lt (by assumption) | exact Nat.le_trans (by assumption) (by decide) | omega) ?hb ?hloc (.cons ⟨_, rfl⟩ (.cons rfl .nil)) ?c2 ?c3 ?c4 ?c5 ?go
  case ho => (first | (with_reducible apply Mine.kp_look; (focus k_is); decide) | (with_reducible apply Mine.kp_ns; (focus k_is); decide) | kernel_rfl)
  case hcd => (first | (with_reducible apply Mine.kp_look; (focus k_is); decide) | (with_reducible apply Mine.kp_ns; (focus k_is); decide) | kernel_rfl)
  case hb => exact fun _ _ => BindsTo.of_eq rfl
  case hloc => exact locs rfl
  case c2 => rfl
  case c3 => rfl
  case c4 => rfl
  case c5 => decide
  case go =>
    intro L h1 b
    have B1 := B.keeps b.st
    have l1 : h1.IsList src #[.int a ta, .int b' tb] := let ⟨o, e, r⟩ := hl; ⟨o, b.st _ _ e, r⟩
    have hL : src ≠ L := let ⟨o, e, r⟩ := hl; b.ne e
    refine Ds.ifRet (Pt.cmp Cmp.gt (Pe.item l1 (by decide) (by decide) rfl ⟨_, rfl⟩ (Pe.loc b.lo rfl) Pe.int) Pe.int) ?_ ?_
    · refine i1 fun hc => ?_
      have ha : a > 0 := by first | exact of_decide_eq_true hc.symm | exact of_decide_eq_false hc.symm | simpa using hc.symm
      refine Ds.let b (Pe.mod (by with_reducible first | exact Int.natCast_nonneg _ | exact z63 (by assumption) (by assumption) | exact z65 (by assumption) (by assumption) | exact zn (by assumption) | exact le5 (by assumption) (by assumption) | exact Int.ofNat_lt.mpr (by assumption) | exact Nat.le_of_lt (by assumption) | exact Nat.le_trans (by assumption) (by decide) | omega) (Pe.int1 B1 gl_int (Pe.item l1 (by decide) (by decide) rfl ⟨_, rfl⟩ (Pe.loc b.lo rfl) Pe.int)) (Pe.loc b.lo rfl)) fun h2 b2 => ?_
      have l2 : h2.IsList src #[.int a ta, .int b' tb] := let ⟨o, e, r⟩ := hl; ⟨o, b2.st _ _ e, r⟩
      refine Ds.setItemP l2 (by decide) (by decide) (by first | exact List.mem_append_left _ (.head _) | exact List.mem_append_left _ (.tail _ (.head _)) | exact List.mem_append_left _ (.tail _ (.tail _ (.head _))) | exact List.mem_append_left _ (.tail _ (.tail _ (.tail _ (.head _)))) | exact .head _ | exact .tail _ (.head _) | simp) (Pe.fdiv (by with_reducible first | exact Int.natCast_nonneg _ | exact z63 (by assumption) (by assumption) | exact z65 (by assumption) (by assumption) | exact zn (by assumption) | exact le5 (by assumption) (by assumption) | exact Int.ofNat_lt.mpr (by assumption) | exact Nat.le_of_lt (by assumption) | exact Nat.le_trans (by assumption) (by decide) | omega) (small_pylong (by with_reducible first | exact Int.natCast_nonneg _ | exact z63 (by assumption) (by assumption) | exact z65 (by assumption) (by assumption) | exact zn (by assumption) | exact le5 (by assumption) (by assumption) | exact Int.ofNat_lt.mpr (by assumption) | exact Nat.le_of_lt (by assumption) | exact Nat.le_trans (by assumption) (by decide) | omega)) (Pe.item l2 (by decide) (by decide) rfl ⟨_, rfl⟩ (Pe.loc b2.lo rfl) Pe.int) (Pe.loc b2.lo rfl)) (Pe.loc b2.lo rfl) Pe.int ?_
      rintro v h4 ⟨t4, rfl⟩ l4 s4
      refine Ds.ret ((Pe.loc (b2.lo.at fun o e => (s4.2 _ (Ne.symm hL)).trans e) rfl).mono ?_)
      refine i2t fun t5 => ?_
      refine ⟨⟨_, rfl⟩, _, t5, a.fdiv top, b', rfl, ?_, ?_, ⟨hi, ⟨t4, tb, l4⟩, ?_, b0, b1⟩, fun c o hc e => (s4.2 c hc).trans (b2.st c o e)⟩
      · rw [Int.fmod_eq_emod_of_nonneg _ (by with_reducible first | exact Int.natCast_nonneg _ | exact z63 (by assumption) (by assumption) | exact z65 (by assumption) (by assumption) | exact zn (by assumption) | exact le5 (by assumption) (by assumption) | exact Int.ofNat_lt.mpr (by assumption) | exact Nat.le_of_lt (by assumption) | exact Nat.le_trans (by assumption) (by decide) | omega)]; exact Int.emod_nonneg _ (by with_reducible first | exact Int.natCast_nonneg _ | exact z63 (by assumption) (by assumption) | exact z65 (by assumption) (by assumption) | exact zn (by assumption) | exact le5 (by assumption) (by assumption) | exact Int.ofNat_lt.mpr (by assumption) | exact Nat.le_of_lt (by assumption) | exact Nat.le_trans (by assumption) (by decide) | omega)
      · rw [Int.fmod_eq_emod_of_nonneg _ (by with_reducible first | exact Int.natCast_nonneg _ | exact z63 (by assumption) (by assumption) | exact z65 (by assumption) (by assumption) | exact zn (by assumption) | exact le5 (by assumption) (by assumption) | exact Int.ofNat_lt.mpr (by assumption) | exact Nat.le_of_lt (by assumption) | exact Nat.le_trans (by assumption) (by decide) | omega)]; exact Int.emod_lt_of_pos _ h0
      · rw [Int.fdiv_eq_ediv_of_nonneg _ (by with_reducible first | exact Int.natCast_nonneg _ | exact z63 (by assumption) (by assumption) | exact z65 (by assumption) (by assumption) | exact zn (by assumption) | exact le5 (by assumption) (by assumption) | exact Int.ofNat_lt.mpr (by assumption) | exact Nat.le_of_lt (by assumption) | exact Nat.le_trans (by assumption) (by decide) | omega)]; exact Int.ediv_nonneg a0 (by with_reducible first | exact Int.natCast_nonneg _ | exact z63 (by assumption) (by assumption) | exact z65 (by assumption) (by assumption) | exact zn (by assumption) | exact le5 (by assumption) (by assumption) | exact Int.ofNat_lt.mpr (by assumption) | exact Nat.le_of_lt (by assumption) | exact Nat.le_trans (by assumption) (by decide) | omega)
    · refine i1 fun hc => ?_
      have hb : IntMulOk b' 39373 := IntMulOk.of_right (intBits_le_64 (by with_reducible first | exact Int.natCast_nonneg _ | exact z63 (by assumption) (by assumption) | exact z65 (by assumption) (by assumption) | exact zn (by assumption) | exact le5 (by assumption) (by assumption) | exact Int.ofNat_lt.mpr (by assumption) | exact Nat.le_of_lt (by assumption) | exact Nat.le_trans (by assumption) (by decide) | omega) (by with_reducible first | exact Int.natCast_nonneg _ | exact z63 (by assumption) (by assumption) | exact z65 (by assumption) (by assumption) | exact zn (by assumption) | exact le5 (by assumption) (by assumption) | exact Int.ofNat_lt.mpr (by assumption) | exact Nat.le_of_lt (by assumption) | exact Nat.le_trans (by assumption) (by decide) | omega))
      have e0 : 0 ≤ (b' * 39373 + 7).fmod 2147483647 := by rw [Int.fmod_eq_emod_of_nonneg _ (by with_reducible first | exact Int.natCast_nonneg _ | exact z63 (by assumption) (by assumption) | exact z65 (by assumption) (by assumption) | exact zn (by assumption) | exact le5 (by assumption) (by assumption) | exact Int.ofNat_lt.mpr (by assumption) | exact Nat.le_of_lt (by assumption) | exact Nat.le_trans (by assumption) (by decide) | omega)]; exact Int.emod_nonneg _ (by with_reducible first | exact Int.natCast_nonneg _ | exact z63 (by assumption) (by assumption) | exact z65 (by assumption) (by assumption) | exact zn (by assumption) | exact le5 (by assumption) (by assumption) | exact Int.ofNat_lt.mpr (by assumption) | exact Nat.le_of_lt (by assumption) | exact Nat.le_trans (by assumption) (by decide) | omega)
      have e1 : (b' * 39373 + 7).fmod 2147483647 < 2147483647 := by rw [Int.fmod_eq_emod_of_nonneg _ (by with_reducible first | exact Int.natCast_nonneg _ | exact z63 (by assumption) (by assumption) | exact z65 (by assumption) (by assumption) | exact zn (by assumption) | exact le5 (by assumption) (by assumption) | exact Int.ofNat_lt.mpr (by assumption) | exact Nat.le_of_lt (by assumption) | exact Nat.le_trans (by assumption) (by decide) | omega)]; exact Int.emod_lt_of_pos _ (by with_reducible first | exact Int.natCast_nonneg _ | exact z63 (by assumption) (by assumption) | exact z65 (by assumption) (by assumption) | exact zn (by assumption) | exact le5 (by assumption) (by assumption) | exact Int.ofNat_lt.mpr (by assumption) | exact Nat.le_of_lt (by assumption) | exact Nat.le_trans (by assumption) (by decide) | omega)
      refine Ds.setItemP l1 (by decide) (by decide) (by first | exact List.mem_append_left _ (.head _) | exact List.mem_append_left _ (.tail _ (.head _)) | exact List.mem_append_left _ (.tail _ (.tail _ (.head _))) | exact List.mem_append_left _ (.tail _ (.tail _ (.tail _ (.head _)))) | exact .head _ | exact .tail _ (.head _) | simp) (Pe.mod (b := 2147483647) (by decide) (Pe.int1 B1 gl_int (Pe.add (Pe.mul hb (Pe.item l1 (by decide) (by decide) rfl ⟨_, rfl⟩ (Pe.loc b.lo rfl) Pe.int) Pe.int) Pe.int)) Pe.int) (Pe.loc b.lo rfl) Pe.int ?_
      rintro v h4 ⟨t4, rfl⟩ l4 s4
      have lo4 : Lo h4 L _ := b.lo.at fun o e => (s4.2 _ (Ne.symm hL)).trans e
      have B4 : Ok (KP w.params) h4 := B1.low fun c o hc e => (s4.2 c (low_ne hc hi)).trans e
      have hm : IntMulOk ((b' * 39373 + 7).fmod 2147483647) ((b' * 39373 + 7).fmod 2147483647) := IntMulOk.of_right (intBits_le_64 (by with_reducible first | exact Int.natCast_nonneg _ | exact z63 (by assumption) (by assumption) | exact z65 (by assumption) (by assumption) | exact zn (by assumption) | exact le5 (by assumption) (by assumption) | exact Int.ofNat_lt.mpr (by assumption) | exact Nat.le_of_lt (by assumption) | exact Nat.le_trans (by assumption) (by decide) | omega) (by with_reducible first | exact Int.natCast_nonneg _ | exact z63 (by assumption) (by assumption) | exact z65 (by assumption) (by assumption) | exact zn (by assumption) | exact le5 (by assumption) (by assumption) | exact Int.ofNat_lt.mpr (by assumption) | exact Nat.le_of_lt (by assumption) | exact Nat.le_trans (by assumption) (by decide) | omega))
      refine Ds.ret ((Pe.mod (b := top) (by with_reducible first | exact Int.natCast_nonneg _ | exact z63 (by assumption) (by assumption) | exact z65 (by assumption) (by assumption) | exact zn (by assumption) | exact le5 (by assumption) (by assumption) | exact Int.ofNat_lt.mpr (by assumption) | exact Nat.le_of_lt (by assumption) | exact Nat.le_trans (by assumption) (by decide) | omega) (Pe.int1 B4 gl_int (Pe.fdiv (b := 32) (by decide) (small_pylong (by decide)) (Pe.mod (b := 2147483629) (by decide) (Pe.int1 B4 gl_int (Pe.mul hm (Pe.item l4 (by decide) (by decide) rfl ⟨_, rfl⟩ (Pe.loc lo4 rfl) Pe.int) (Pe.item l4 (by decide) (by decide) rfl ⟨_, rfl⟩ (Pe.loc lo4 rfl) Pe.int))) Pe.int) Pe.int)) (Pe.loc lo4 rfl)).mono ?_)
      refine i2t fun t5 => ?_
      refine ⟨_, t5, a, _, rfl, ?_, ?_, ⟨hi, ⟨ta, t4, l4⟩, a0, e0, e1⟩, fun c o hc e => (s4.2 c hc).trans (b.st c o e)⟩
      · rw [Int.fmod_eq_emod_of_nonneg _ (by with_reducible first | exact Int.natCast_nonneg _ | exact z63 (by assumption) (by assumption) | exact z65 (by assumption) (by assumption) | exact zn (by assumption) | exact le5 (by assumption) (by assumption) | exact Int.ofNat_lt.mpr (by assumption) | exact Nat.le_of_lt (by assumption) | exact Nat.le_trans (by assumption) (by decide) | omega)]; exact Int.emod_nonneg _ (by with_reducible first | exact Int.natCast_nonneg _ | exact z63 (by assumption) (by assumption) | exact z65 (by assumption) (by assumption) | exact zn (by assumption) | exact le5 (by assumption) (by assumption) | exact Int.ofNat_lt.mpr (by assumption) | exact Nat.le_of_lt (by assumption) | exact Nat.le_trans (by assumption) (by decide) | omega)
      · rw [Int.fmod_eq_emod_of_nonneg _ (by with_reducible first | exact Int.natCast_nonneg _ | exact z63 (by assumption) (by assumption) | exact z65 (by assumption) (by assumption) | exact zn (by assumption) | exact le5 (by assumption) (by assumption) | exact Int.ofNat_lt.mpr (by assumption) | exact Nat.le_of_lt (by assumption) | exact Nat.le_trans (by assumption) (by decide) | omega)]; exact Int.emod_lt_of_pos _ h0
end Mine
end

-- Comp
section
open PySem PySem.W PySem.Calls PyProof.Rows
set_option tactic.hygienic false
namespace Mine
theorem fresh_size {h : Heap} {a : Addr} (k : h.objs.size ≤ a) : h.get? a = none := by
  cases e : h.get? a with
  | none => rfl
  | some o => exact absurd (Heap.lt_size e) (Nat.not_lt.mpr k)
theorem not_mem_of {h : Heap} {X : List Addr} {a : Addr} {o : Obj} (n : ∀ a ∈ X, h.get? a = none) (e : h.get? a = some o) : a ∉ X := fun q => by exact no_one (n a q) e
noncomputable abbrev testsOf (ifs : List Expr) (env : Env) : Sem Bool := forIn ifs true fun c r => if r = true then do let ok ← isTrue c env (eval c env); pure (ForInStep.yield ok) else pure (ForInStep.yield r)
section
variable {PR : Program} {w : World} {A : Around} {E : Value → Shared → Prop} {R : Result → Shared → Prop} {s : Shared}
theorem compLoop_all {elt target iter : Expr} {ifs : List Expr} {scope : Scope} {pos : Pos} {it acc : Value} {env : Env} (I : Nat → Shared → Prop)
    (turn : ∀ n s, I n s → wpAny (model PR w) A (pyNext it) (fun r s₁ => match r with
      | none => R (.ok .next) s₁
      | some v => wpAny (model PR w) A (letOwnedTupleGo target it v) (fun _ s₀ => wpAny (model PR w) A (assign target env v) (fun _ s₂ =>
          wpAny (model PR w) A (testsOf ifs env) (fun ok s₃ => if ok = true then wpAny (model PR w) A (eval elt env) (fun x s₄ =>
            wpAny (model PR w) A (call (.builtin "list.append") [acc, x]) (fun _ s₅ => ∃ m, m < n ∧ I m s₅) (notedBy (model PR w) A env fun e s' => R (.error e) s') s₄) (notedBy (model PR w) A env fun e s' => R (.error e) s') s₃
            else ∃ m, m < n ∧ I m s₃) (notedBy (model PR w) A env fun e s' => R (.error e) s') s₂)
          (notedBy (model PR w) A env fun e s' => R (.error e) s') s₀) (notedBy (model PR w) A env fun e s' => R (.error e) s') s₁) (notedBy (model PR w) A env fun e s' => R (.error e) s') s)
    (n : Nat) (h : I n s) : codeAny (model PR w) A (.compLoop (.ListComp elt [⟨target, iter, ifs, 0⟩] scope pos) 0 it acc env) R s := by
  refine codeAny_loop rfl I (fun n s hI => ?_) n h
  show wpAny _ A ((compTurn (.ListComp elt [⟨target, iter, ifs, 0⟩] scope pos) 0 it acc env).onRaise (fun x => do noteFrame x env; theTreesLotGoes x)) _ _ s
  refine wpAny_noted ?_
  rw [compTurn_list]
  refine wpAny_bind (wpAny_standAt (wpAny_bind (wpAny_mono (turn n s hI) (fun r s₁ h₁ => ?_) fun _ _ h' => h')))
  cases r with
  | none => exact wpAny_pure h₁
  | some v =>
    refine wpAny_bind (wpAny_mono h₁ (fun _ s₀ h₀' => ?_) fun _ _ h' => h')
    refine wpAny_bind (wpAny_mono h₀' (fun _ s₂ h₂ => ?_) fun _ _ h' => h')
    refine wpAny_bind (wpAny_mono h₂ (fun okb s₃ h₃ => ?_) fun _ _ h' => h')
    cases okb with
    | false => exact wpAny_pure ⟨rfl, h₃⟩
    | true => exact wpAny_bind (wpAny_bind (wpAny_mono h₃ (fun x s₄ h₄ => wpAny_bind (wpAny_mono h₄ (fun _ s₅ h₅ => wpAny_pure (wpAny_pure ⟨rfl, h₅⟩)) fun _ _ h' => h')) fun _ _ h' => h'))
end
-- u, at h1, walks these n items into target; what it reads of the old world is in old
structure Iters (PR : Program) (w : World) (A : Around) (target : Expr) (u : Value) (base h1 : Heap) (n : Nat) (old : List Addr) (P : Nat → Value → Heap → Prop) : Prop where
  go : Do PR w A (pyIter u) h1 fun it h2 => X5 (fun I fp wr Md St => C8 (it = .ref I) (KTurns PR w A target I fp wr n P Md St) (St 0 h2) ((∀ i h, St i h → ∀ b ∈ fp, ∃ o, h.get? b = some o)) ((∀ b ∈ wr, base.get? b = none)) ((∀ b ∈ fp, b ∈ wr ∨ b ∈ old)) (base.StaysIn h2) (∀ i (s : Shared) (Q : Value → Shared → Prop) (E : Value → Shared → Prop), St i s.heap → Q (.ref I) s → wpAny (model PR w) A (pyIter (.ref I)) Q E s))
noncomputable def KeepX (X : List Addr) (h h' : Heap) : Prop := ∀ a ∈ X, ∀ o, h.get? a = some o → h'.get? a = some o
theorem KeepX.ofStays {X : List Addr} {h h' : Heap} (k : h.StaysIn h') : KeepX X h h' := fun a _ o e => k a o e
section
variable {PR : Program} {w : World} {A : Around} {env : Env} {h : Heap}
theorem comp_core {h₁' : Heap} {elt target iter : Expr} {ifs : List Expr} {scope : Scope} {pos : Pos} {cl : List (Str × Addr)} {u : Value} {n : Nat} {old : List Addr} {P : Nat → Value → Heap → Prop} {lo : Nat → List (Str × D)} (J : List Addr → Nat → List Value → Heap → Prop)
    (it : Iters PR w A target u h h₁' n old P) (hsz : n ≤ sizeLine) (hcell : ∀ y ∈ scope.names, y.2 ≠ .cell) (hkind : scope.kind = .function)
    (hold : ∀ a ∈ old, ∃ o, h.get? a = some o)
    (stab : ∀ X i ys g g', J X i ys g → Off X g g' → J X i ys g')
    (start : ∀ X g, (∀ a ∈ X, h.get? a = none) → h.StaysIn g → J X 0 [] g)
    (asg : ∀ C i v g m, i < n → P i v g → g.Ns C m → Do PR w A (assign target (compEnvC scope cl C env) v) g fun _ g' => Lo g' C (lo i) ∧ ∀ b o, b ≠ C → g.get? b = some o → g'.get? b = some o)
    (turn : ∀ X C i ys g, i < n → C ∈ X → (∀ a ∈ X, h.get? a = none) → (∀ a ∈ X, ∃ o, g.get? a = some o) → J X i ys g → Lo g C (lo i) →
      Do PR w A (testsOf ifs (compEnvC scope cl C env)) g fun ok g₁ => KeepX (X ++ old) g g₁ ∧ (ok = true → Do PR w A (eval elt (compEnvC scope cl C env)) g₁ fun y g₂ => KeepX (X ++ old) g₁ g₂ ∧ J X (i + 1) (ys ++ [y]) g₂) ∧ (ok = false → J X (i + 1) ys g₁))
    {RR : Value → Addr → Result → Shared → Prop} {s : Shared} {E : Value → Shared → Prop} (e : s.heap = h₁')
    (fin : ∀ X D C g ys m tk, C ∈ X → D ∈ X → C ≠ D → h.get? D = none → h.get? C = none → g.Ns C m → g.IsList D ys.toArray → J X n ys g → ys.length ≤ n → RR (.ref D) C (.ok .next) { s with heap := g, toks := tk }) :
    wpAny (model PR w) A (pyIter u) (fun it s₂ => wpAny (model PR w) A (newList []) (fun acc s₃ => wpAny (model PR w) A (newFunctionEnv scope env.globals cl [] env.qual none .none (some env)) (fun cenv s₄ =>
      codeAny (model PR w) A (.compStart (.ListComp elt [⟨target, iter, ifs, 0⟩] scope pos) 0 it acc { cenv with scope := relabel scope env }) (RR acc cenv.locals) s₄) E s₃) E s₂) E s := by
  refine it.go s _ E e fun itv h₂ tk₂ hit => ?_
  obtain ⟨I, fp, wr, Md, St, rfl, W, st0, ex, wnew, fpo, st2, self⟩ := hit
  refine wpAny_newObj_type (wpAny_newFunctionEnv hcell (by intro y hy; simp at hy) (fun h₁ hns₁ hsb₁ => ?_) hkind)
  dsimp only at hns₁ hsb₁ ⊢
  generalize hH2 : h₂.push { cls := .type "list", dict := none, data := .seq ([] : List Value).toArray } = H2 at hns₁ hsb₁ ⊢
  have hC : H2.objs.size = h₂.objs.size + 1 := by rw [← hH2, Heap.size_push]
  have hDC : h₂.objs.size ≠ H2.objs.size := by rw [hC]; exact Nat.ne_of_lt (Nat.lt_succ_self _)
  have below : ∀ b, b < h₂.objs.size → b ≠ H2.objs.size ∧ b ≠ h₂.objs.size := fun b hb => ⟨by rw [hC]; exact Nat.ne_of_lt (Nat.lt_succ_of_lt hb), Nat.ne_of_lt hb⟩
  have fpl : ∀ b ∈ fp, b ≠ H2.objs.size ∧ b ≠ h₂.objs.size := fun b hb => below b (let ⟨_, q⟩ := ex 0 _ st0 b hb; Heap.lt_size q)
  have oldl : ∀ b ∈ old, b ≠ H2.objs.size ∧ b ≠ h₂.objs.size := fun b hb => below b (let ⟨_, q⟩ := hold b hb; Heap.lt_size (st2 _ _ q))
  have old2 : ∀ b o, h₂.get? b = some o → h₁.get? b = some o := fun b o e => hsb₁.extBut b o (below b (Heap.lt_size e)).1 (Heap.get?_push_of_some _ (hH2 ▸ Heap.get?_push_of_some _ e))
  have hacc : h₁.IsList h₂.objs.size #[] := ⟨_, hsb₁.extBut _ _ hDC (Heap.get?_push_of_some _ (hH2 ▸ Heap.get?_push_size _ rfl)), rfl, _, rfl⟩
  have hst₁ : St 0 h₁ := W.frame _ _ _ st0 fun b _ o e => old2 b o e
  have hD0 : h.get? h₂.objs.size = none := by
    cases q : h.get? h₂.objs.size with
    | none => rfl
    | some o => exact absurd (Heap.lt_size (st2 _ _ q)) (Nat.lt_irrefl _)
  have hC0 : h.get? H2.objs.size = none := by
    cases q : h.get? H2.objs.size with
    | none => rfl
    | some o => exact absurd (Heap.lt_size (st2 _ _ q)) (by rw [hC]; exact Nat.not_lt.mpr (Nat.le_succ _))
  have stay1 : h.StaysIn h₁ := fun b o e => old2 b o (st2 b o e)
  let X : List Addr := H2.objs.size :: h₂.objs.size :: wr
  have hX0 : ∀ a ∈ X, h.get? a = none := fun a ha => by
    revert a ha; refine Mine.allc ?_ fun a ha => ?_
    · exact hC0
    · revert a ha; refine Mine.allc ?_ fun a ha => ?_
      · exact hD0
      · exact wnew a ha
  have loop : ∀ s₃ : Shared, s₃ = { s with heap := h₁, toks := tk₂ + ([] : List (Str × Value)).length } →
      codeAny (model PR w) A (.compLoop (.ListComp elt [⟨target, iter, ifs, 0⟩] scope pos) 0 (.ref I) (.ref h₂.objs.size) (compEnvC scope cl H2.objs.size env)) (RR (.ref h₂.objs.size) H2.objs.size) s₃ := by
    rintro s₃ rfl
    refine compLoop_all
      (fun k s' => X5 (fun h' tk i ys m' => C8 (s' = { s with heap := h', toks := tk }) (i ≤ n) (k = n + 1 - i) (ys.length ≤ i) (St i h') (h'.Ns H2.objs.size m') (h'.IsList h₂.objs.size ys.toArray) (J X i ys h'))) ?_ (n + 1)
      ⟨h₁, _, 0, [], _, rfl, Nat.zero_le _, rfl, Nat.le_refl _, hst₁, hns₁, hacc, start X _ hX0 stay1⟩
    rintro k s' ⟨h', tk, i, ys, m', rfl, hi, rfl, hyl, hst', hn', hD', hJ⟩
    by_cases hlt : i < n
    · refine W.item i _ _ _ hlt hst' fun v h₃ tk₃ hMd hk₃ => ?_
      refine W.go i v _ _ _ hMd fun h₄ hP hst₄ hk₄ => ?_
      have up : ∀ b o, b ∉ wr → h'.get? b = some o → h₄.get? b = some o := fun b o hb e => hk₄ b o hb (hk₃ b o hb e)
      have nw : ∀ b, b = H2.objs.size ∨ b = h₂.objs.size → b ∉ wr := fun b hb hw => by
        have := fpl b (W.sub b hw)
        rcases hb with hb | hb
        · exact this.1 hb
        · exact this.2 hb
      have hn₄ : h₄.Ns H2.objs.size m' := hn'.at' fun o e => up _ o (nw _ (.inl rfl)) e
      refine asg H2.objs.size i v h₄ m' hlt hP hn₄ _ _ _ rfl fun _ h₅ tk₅ p5 => ?_
      obtain ⟨lo5, k5⟩ := p5
      have hCf : ∀ b, b ∈ fp → b ≠ H2.objs.size := fun b hb => (fpl b hb).1
      have st5 : St (i + 1) h₅ := W.frame _ _ _ hst₄ fun b hb o e => k5 b o (hCf b hb) e
      have D5 : h₅.IsList h₂.objs.size ys.toArray := let ⟨o, e, r⟩ := hD'; ⟨o, k5 _ o hDC (up _ o (nw _ (.inr rfl)) e), r⟩
      have J5 : J X i ys h₅ := stab X i ys _ _ hJ fun b o e hb => k5 b o (fun q => hb (q ▸ .head _)) (up b o (fun q => hb (.tail _ (.tail _ q))) e)
      have ex5 : ∀ a ∈ X, ∃ o, h₅.get? a = some o := fun a ha => by
        revert a ha; refine Mine.allc ?_ fun a ha => ?_
        · obtain ⟨m5, ⟨o, es, ep, e, r⟩, _⟩ := lo5; exact ⟨o, e⟩
        · revert a ha; refine Mine.allc ?_ fun a ha => ?_
          · obtain ⟨o, e, r⟩ := D5; exact ⟨o, e⟩
          · exact ex _ _ st5 a (W.sub a ha)
      have fpX : ∀ b ∈ fp, b ∈ X ++ old := fun b hb => List.mem_append.mpr ((fpo b hb).elim (fun q => .inl (.tail _ (.tail _ q))) .inr)
      have T := turn X H2.objs.size i ys h₅ hlt (.head _) hX0 ex5 J5 lo5
      refine T _ _ _ rfl fun ok h₆ tk₆ p6 => ?_
      obtain ⟨k6, yes, no⟩ := p6
      have next : ∀ h₇ tk₇ ys', KeepX (X ++ old) h₅ h₇ → h₇.IsList h₂.objs.size ys'.toArray → ys'.length ≤ i + 1 → J X (i + 1) ys' h₇ →
          ∃ m, m < n + 1 - i ∧ X5 (fun h' tk i ys m' => C8 (({ s with heap := h₇, toks := tk₇ } : Shared) = { s with heap := h', toks := tk }) (i ≤ n) (m = n + 1 - i) (ys.length ≤ i) (St i h') (h'.Ns H2.objs.size m') (h'.IsList h₂.objs.size ys.toArray) (J X i ys h')) := by
        intro h₇ tk₇ ys' k7 l7 z7 J7
        obtain ⟨m5, n5, _⟩ := lo5
        exact ⟨n + 1 - (i + 1), ar3 hlt, h₇, tk₇, i + 1, ys', m5, rfl, hlt, rfl, z7, W.frame _ _ _ st5 fun b hb o e => k7 b (fpX b hb) o e, n5.at' fun o e => k7 _ (List.mem_append.mpr (.inl (.head _))) o e, l7, J7⟩
      cases ok with
      | false =>
        simp only [Bool.false_eq_true, if_false]
        exact next h₆ tk₆ ys k6 (let ⟨o, e, r⟩ := D5; ⟨o, k6 _ (List.mem_append.mpr (.inl (.tail _ (.head _)))) o e, r⟩) (Nat.le_succ_of_le hyl) (no rfl)
      | true =>
        simp only [if_true]
        refine yes rfl _ _ _ rfl fun y h₇ tk₇ p7 => ?_
        obtain ⟨k7, J7⟩ := p7
        have D7 : h₇.IsList h₂.objs.size ys.toArray := let ⟨o, e, r⟩ := D5; ⟨o, k7 _ (List.mem_append.mpr (.inl (.tail _ (.head _)))) o (k6 _ (List.mem_append.mpr (.inl (.tail _ (.head _)))) o e), r⟩
        refine wpAny_list_append (hsz := by show ys.toArray.size ≤ sizeLine; rw [List.size_toArray]; exact Nat.le_trans hyl (Nat.le_trans (Nat.le_of_lt hlt) hsz)) D7 fun h₈ l8 s8 => ?_
        have l8' : h₈.IsList h₂.objs.size (ys ++ [y]).toArray := by simpa using l8
        have J8 : J X (i + 1) (ys ++ [y]) h₈ := stab _ _ _ _ _ J7 fun b o e hb => s8.extBut b o (fun q => hb (q ▸ .tail _ (.head _))) e
        -- the frame and the walk stand through the append
        obtain ⟨m5, n5, _⟩ := lo5
        have keep : ∀ b, b ∈ X ++ old → b ≠ h₂.objs.size → ∀ o, h₅.get? b = some o → h₈.get? b = some o := fun b hb hne o e => s8.extBut b o hne (k7 b hb o (k6 b hb o e))
        refine ⟨n + 1 - (i + 1), ar3 hlt, h₈, tk₇, i + 1, ys ++ [y], m5, rfl, hlt, rfl, by rw [List.length_append]; exact Nat.succ_le_succ hyl, W.frame _ _ _ st5 fun b hb o e => keep b (fpX b hb) (fpl b hb).2 o e, n5.at' fun o e => keep _ (List.mem_append.mpr (.inl (.head _))) (Ne.symm hDC) o e, l8', J8⟩
    · obtain rfl : i = n := Nat.le_antisymm hi (Nat.not_lt.mp hlt)
      refine W.done _ _ _ hst' fun h₃ tk₃ hk₃ => ?_
      have nw : ∀ b, b = H2.objs.size ∨ b = h₂.objs.size → b ∉ wr := fun b hb hw => by
        have := fpl b (W.sub b hw)
        rcases hb with hb | hb
        · exact this.1 hb
        · exact this.2 hb
      exact fin X h₂.objs.size H2.objs.size h₃ ys m' _ (.head _) (.tail _ (.head _)) (Ne.symm hDC) hD0 hC0 (hn'.at' fun o e => hk₃ _ o (nw _ (.inl rfl)) e) (let ⟨o, e, r⟩ := hD'; ⟨o, hk₃ _ o (nw _ (.inr rfl)) e, r⟩)
        (stab _ _ _ _ _ hJ fun b o e hb => hk₃ b o (fun q => hb (.tail _ (.tail _ q))) e) hyl
  exact codeAny_compStart_list (loop _ rfl) (self 0 _ _ _ hst₁ (loop _ rfl))
end
end Mine
end

-- Comp2
section
open PySem PySem.W PySem.Calls PyProof.Rows
set_option tactic.hygienic false
namespace Mine
inductive XQ (p : (β : Type) → Heap → Nat → (Nat → Option β) → (Heap → Value → β → Prop) → List Addr → (Nat → Value → Heap → Prop) → (Nat → List (Str × D)) → Prop) : Prop
  | mk (β : Type) (base : Heap) (n : Nat) (sp : Nat → Option β) (F : Heap → Value → β → Prop) (old : List Addr) (P : Nat → Value → Heap → Prop) (lo : Nat → List (Str × D)) (h : p β base n sp F old P lo)
theorem IsList_keeps {h h' : Heap} {a : Addr} {items : Array Value} (x : h.IsList a items) (k : h.StaysIn h') : h'.IsList a items := let ⟨o, e, r⟩ := x; ⟨o, k _ _ e, r⟩
theorem stays_hideAll {g h : Heap} {X : List Addr} (k : g.StaysIn h) (n : ∀ a ∈ X, g.get? a = none) : g.StaysIn (hideAll h X) := fun b o e => hideAll_get X (k b o e) (not_mem_of n e)
theorem hideAll_stays {h : Heap} {X : List Addr} : (hideAll h X).StaysIn h := fun b o e => of_hideAll X e
noncomputable def selOf {β : Type} (sp : Nat → Option β) (n : Nat) : List β := (List.range n).filterMap sp
theorem selOf_succ {β : Type} {sp : Nat → Option β} {n : Nat} : selOf sp (n + 1) = selOf sp n ++ (sp n).toList := by
  unfold selOf
  rw [List.range_succ, List.filterMap_append]
  cases h : sp n <;> simp [h]
theorem Paired.mono {α β : Type} {F G : α → β → Prop} (k : ∀ a b, F a b → G a b) {l : List α} {m : List β} (p : Paired F l m) : Paired G l m := by
  induction p with
  | nil => exact .nil
  | cons x t ih => exact .cons (k _ _ x) ih
-- a comprehension that changes nothing; sp i: what turn i gives, if it gives anything
structure Quiet {β : Type} (PR : Program) (w : World) (A : Around) (env : Env) (scope : Scope) (cl : List (Str × Addr)) (target : Expr) (ifs : List Expr) (elt : Expr) (u : Value) (Z : List Addr) (base h1 : Heap) (n : Nat) (sp : Nat → Option β) (F : Heap → Value → β → Prop) (old : List Addr) (P : Nat → Value → Heap → Prop) (lo : Nat → List (Str × D)) : Prop where
  it : Iters PR w A target u base h1 n old P
  sz : n ≤ sizeLine
  ol : ∀ a ∈ old, ∃ o, base.get? a = some o
  asg : ∀ C i v g m, i < n → P i v g → g.Ns C m → Do PR w A (assign target (compEnvC scope cl C env) v) g fun _ g' => Lo g' C (lo i) ∧ ∀ b o, b ≠ C → g.get? b = some o → g'.get? b = some o
  mono : ∀ g g' y b, F g y b → g.StaysIn g' → F g' y b
  zin : ∀ a ∈ Z, ∃ o, base.get? a = some o
  turn : ∀ X C i g, i < n → (hideAll base Z).StaysIn (hideAll g (Z ++ X)) → (∀ a ∈ Z ++ X, ∃ o, g.get? a = some o) → Lo g C (lo i) →
    Do PR w A (testsOf ifs (compEnvC scope cl C env)) g fun ok g₁ => g.StaysIn g₁ ∧ ok = (sp i).isSome ∧ ∀ b, sp i = some b → Do PR w A (eval elt (compEnvC scope cl C env)) g₁ fun y g₂ => g₁.StaysIn g₂ ∧ F (hideAll g₂ (Z ++ X)) y b
noncomputable def QJ {β : Type} (Z : List Addr) (base : Heap) (sp : Nat → Option β) (F : Heap → Value → β → Prop) (X : List Addr) (i : Nat) (ys : List Value) (h : Heap) : Prop :=
  (∀ a ∈ X, base.get? a = none) ∧ X1 (fun g => C5 ((hideAll base Z).StaysIn g) (g.StaysIn h) ((∀ a ∈ Z ++ X, g.get? a = none)) ((∀ a ∈ Z, ∀ o, base.get? a = some o → h.get? a = some o)) (Paired (F g) ys (selOf sp i)))
section
variable {PR : Program} {w : World} {A : Around} {env : Env} {h : Heap}
theorem quiet_core {β : Type} {elt target iter : Expr} {ifs : List Expr} {scope : Scope} {pos : Pos} {cl : List (Str × Addr)} {u : Value} {Z : List Addr} {base h1 : Heap} {n : Nat} {sp : Nat → Option β} {F : Heap → Value → β → Prop} {old : List Addr} {P : Nat → Value → Heap → Prop} {lo : Nat → List (Str × D)}
    (q : Quiet PR w A env scope cl target ifs elt u Z base h1 n sp F old P lo) (hcell : ∀ y ∈ scope.names, y.2 ≠ .cell) (hkind : scope.kind = .function)
    {RR : Value → Addr → Result → Shared → Prop} {s : Shared} {E : Value → Shared → Prop} (e : s.heap = h1)
    (fin : ∀ X D C g ys m tk, C ∈ X → D ∈ X → C ≠ D → base.get? D = none → base.get? C = none → g.Ns C m → g.IsList D ys.toArray → QJ Z base sp F X n ys g → RR (.ref D) C (.ok .next) { s with heap := g, toks := tk }) :
    wpAny (model PR w) A (pyIter u) (fun it s₂ => wpAny (model PR w) A (newList []) (fun acc s₃ => wpAny (model PR w) A (newFunctionEnv scope env.globals cl [] env.qual none .none (some env)) (fun cenv s₄ =>
      codeAny (model PR w) A (.compStart (.ListComp elt [⟨target, iter, ifs, 0⟩] scope pos) 0 it acc { cenv with scope := relabel scope env }) (RR acc cenv.locals) s₄) E s₃) E s₂) E s := by
  refine comp_core (iter := iter) (old := old) (P := P) (lo := lo) (QJ Z base sp F) q.it q.sz hcell hkind q.ol ?_ ?_ q.asg ?_ e (fun X D C g ys m tk a b c d e f l j _ => fin X D C g ys m tk a b c d e f l j)
  · rintro X i ys g g' ⟨nx, g0, k1, k2, no, kz, ps⟩ off
    exact ⟨nx, g0, k1, fun b o e => off b o (k2 b o e) (fun hb => (by exact no_one (no b (List.mem_append.mpr (.inr hb))) e)), no, fun a ha o e => off a o (kz a ha o e) (fun hb => (by exact no_one (nx a hb) e)), ps⟩
  · intro X g nx k
    have no : ∀ a ∈ Z ++ X, (hideAll base Z).get? a = none := fun a ha => by
      rcases List.mem_append.mp ha with ha | ha
      · exact hideAll_none Z ha
      · cases q' : (hideAll base Z).get? a with
        | none => rfl
        | some o => have := of_hideAll Z q'; exact no_one (nx a ha) this
    exact ⟨nx, hideAll base Z, fun _ _ e => e, fun b o e => k b o (of_hideAll Z e), no, fun a _ o e => k a o e, .nil⟩
  · rintro X C i ys g hi hC nx ex ⟨_, g0, k1, k2, no, kz, ps⟩ lo'
    have ex' : ∀ a ∈ Z ++ X, ∃ o, g.get? a = some o := fun a ha => by
      rcases List.mem_append.mp ha with ha | ha
      · obtain ⟨o, e⟩ := q.zin a ha; exact ⟨o, kz a ha o e⟩
      · exact ex a ha
    have kg : g0.StaysIn (hideAll g (Z ++ X)) := stays_hideAll k2 no
    refine (q.turn X C i g hi (fun b o e => kg b o (k1 b o e)) ex' lo').mono fun ok g1 p => ?_
    obtain ⟨s1, rfl, el⟩ := p
    refine ⟨KeepX.ofStays s1, fun hok => ?_, fun hok => ?_⟩
    · obtain ⟨b, hb⟩ := Option.isSome_iff_exists.mp hok
      refine (el b hb).mono fun y g2 p2 => ?_
      obtain ⟨s2, f2⟩ := p2
      have kg2 : g0.StaysIn (hideAll g2 (Z ++ X)) := stays_hideAll (fun b o e => s2 b o (s1 b o (k2 b o e))) no
      refine ⟨KeepX.ofStays s2, nx, hideAll g2 (Z ++ X), fun b o e => kg2 b o (k1 b o e), hideAll_stays, fun a ha => hideAll_none _ ha, fun a ha o e => s2 a o (s1 a o (kz a ha o e)), ?_⟩
      rw [selOf_succ, hb]
      exact Paired.snoc (Paired.mono (fun a b x => q.mono _ _ a b x kg2) ps) f2
    · have hb : sp i = none := by cases hb : sp i with | none => rfl | some b => rw [hb] at hok; cases hok
      refine ⟨nx, g0, k1, fun b o e => s1 b o (k2 b o e), no, fun a ha o e => s1 a o (kz a ha o e), ?_⟩
      rw [selOf_succ, hb]
      simpa using ps
-- a quiet comprehension as an expression
theorem DoCompQ {elt target iter : Expr} {ifs : List Expr} {scope : Scope} {pos : Pos} {cl : List (Str × Addr)} {P0 : Value → Heap → Prop} {R : Value → Heap → Prop} (d : Do PR w A (eval iter env) h P0)
    (hclos : closureFor scope env = pure cl) (hcell : ∀ y ∈ scope.names, y.2 ≠ .cell) (hkind : scope.kind = .function) (hnames : ∀ y ∈ scope.names, y.2 = .local → scope.names.lookup y.1 = some .local)
    (k : ∀ u h1, P0 u h1 → XQ (fun (β : Type) (base : Heap) (n : Nat) (sp : Nat → Option β) (F : Heap → Value → β → Prop) (old : List Addr) (P : Nat → Value → Heap → Prop) (lo : Nat → List (Str × D)) => Quiet PR w A env scope cl target ifs elt u [] base h1 n sp F old P lo ∧ ∀ D h' ys, base.StaysIn h' → base.get? D = none → h'.IsList D ys.toArray → Paired (F h') ys (selOf sp n) → R (.ref D) h'))
    (hs : ∀ x, foldedSetIterable iter env x = pure x := by intro _; rfl) : Do PR w A (eval (.ListComp elt [⟨target, iter, ifs, 0⟩] scope pos) env) h R := fun s Q E e q => by
  rw [eval_ListComp]
  refine wpAny_comprehension_free (use := none) rfl hs hclos hkind hnames (d s _ E e fun u h1 tk p => ?_)
  obtain ⟨β, base, n, sp, F, old, P, lo, qt, k⟩ := k u h1 p
  refine quiet_core qt hcell hkind rfl ?_
  intro X D C g ys m tk hC hD hCD D0 C0 hn hl ⟨nx, g0, k1, k2, no, kz, ps⟩
  refine ⟨m, hn, fun h'' hs'' => ?_⟩
  have up : g0.StaysIn h'' := fun b o e => hs''.extBut b o (fun q => by exact no_at q (no C (List.mem_append.mpr (.inr hC))) e) (k2 b o e)
  exact q _ h'' _ (k D h'' ys (fun b o e => up b o (k1 b o e)) D0 (let ⟨o, e, r⟩ := hl; ⟨o, hs''.extBut _ o (Ne.symm hCD) e, r⟩) (Paired.mono (fun a b x => qt.mono _ _ a b x up) ps))
-- a quiet comprehension into a name of its own
theorem DsCompQ {elt target iter : Expr} {ifs : List Expr} {scope : Scope} {pos spos py : Pos} {y : Str} {cl : List (Str × Addr)} {rest : List Stmt} {P0 : Value → Heap → Prop} {R : Flow → Heap → Prop} (d : Do PR w A (eval iter env) h P0)
    (hclos : closureFor scope env = pure cl) (hcell : ∀ y ∈ scope.names, y.2 ≠ .cell) (hkind : scope.kind = .function) (hnames : ∀ y ∈ scope.names, y.2 = .local → scope.names.lookup y.1 = some .local)
    (k : ∀ u h1, P0 u h1 → XQ (fun (β : Type) (base : Heap) (n : Nat) (sp : Nat → Option β) (F : Heap → Value → β → Prop) (old : List Addr) (P : Nat → Value → Heap → Prop) (lo : Nat → List (Str × D)) => Quiet PR w A env scope cl target ifs elt u [env.locals] base h1 n sp F old P lo ∧ ∃ l, Lo base env.locals l ∧ ∀ D h2 g' ys, Bd g' env.locals ((y, .ref D) :: l) h2 → (base.hide env.locals).StaysIn g' → g'.IsList D ys.toArray → Paired (F g') ys (selOf sp n) → Do PR w A (execs rest env) h2 R))
    (hsw : swapsWith (.ListComp elt [⟨target, iter, ifs, 0⟩] scope pos) (some (.Name y py)) spos.line env = pure true := by rfl)
    (hs : ∀ x, foldedSetIterable iter env x = pure x := by intro _; rfl) (hk : env.scope.kind = .function := by rfl) (hy : env.kindOf y = some .local := by rfl) :
    Do PR w A (execs (.Assign [.Name y py] (.ListComp elt [⟨target, iter, ifs, 0⟩] scope pos) spos :: rest) env) h R := fun s Q E e q => by
  refine wpAny_execs_cons ?_
  rw [exec_Assign_Name_used _ _ _ _ hsw]
  refine wpAny_bind (wpAny_standAt (wpAny_bind ?_))
  show wpAny _ A (do let _ ← comprehension (.ListComp elt [⟨target, iter, ifs, 0⟩] scope pos) scope env _ (newList []) false (eval iter env) (some (assign (.Name y py) env))) _ _ s
  refine wpAny_bind (wpAny_mono (wpAny_comprehension_free (use := some (assign (.Name y py) env)) (Q := fun _ s' => wpAny (model PR w) A (execs rest env) Q E s') rfl hs hclos hkind hnames
    (d s _ E e fun u h1 tk p => ?_)) (fun _ s' hq => wpAny_pure (wpAny_pure hq)) fun _ _ e => e)
  obtain ⟨β, base, n, sp, F, old, P, lo, qt, l, lo0, k⟩ := k u h1 p
  refine quiet_core qt hcell hkind rfl ?_
  intro X D C g ys m tk hC hD hCD D0 C0 hn hl ⟨nx, g0, k1, k2, no, kz, ps⟩
  have hL : env.locals ∈ [env.locals] := .head _
  have hCL : C ≠ env.locals := fun q => by
    obtain ⟨o, e⟩ := qt.zin _ hL
    exact no_at (Eq.symm q) C0 e
  have hDL : D ≠ env.locals := fun q => by
    obtain ⟨o, e⟩ := qt.zin _ hL
    exact no_at (Eq.symm q) D0 e
  have lo1 : Lo g env.locals l := lo0.at fun o e => kz _ hL o e
  obtain ⟨m1, n1, q1⟩ := lo1
  show wpAny _ A (assign (.Name y py) env (.ref D)) _ _ _
  refine wpAny_assign_Name (wpAny_storeName_local hy n1 (fun h₂ hn₂ hs₂ => ?_) (by rw [hk]; rfl))
  refine ⟨m, hn.sameBut hs₂ hCL, fun h'' hs'' => ?_⟩
  have hL2 : (h''.hide env.locals).get? env.locals = none := Heap.hide_self _ _
  have up0 : g0.StaysIn h'' := fun b o e => hs''.extBut b o (fun q => by exact no_at q (no C (List.mem_append.mpr (.inr hC))) e) (hs₂.extBut b o (fun q => by exact no_at q (no _ (List.mem_append.mpr (.inl hL))) e) (k2 b o e))
  have up : g0.StaysIn (h''.hide env.locals) := fun b o e => (Heap.hide_ne h'' (fun q => by exact no_at q (no _ (List.mem_append.mpr (.inl hL))) e)).trans (up0 b o e)
  have lo2 : Lo h'' env.locals ((y, .ref D) :: l) := (Lo.put (d := .ref D) hn₂ q1 rfl).at fun o e => hs''.extBut _ o (Ne.symm hCL) e
  have D2 : (h''.hide env.locals).IsList D ys.toArray := let ⟨o, e, r⟩ := hl; ⟨o, (Heap.hide_ne h'' hDL).trans (hs''.extBut _ o (Ne.symm hCD) (hs₂.extBut _ o hDL e)), r⟩
  exact k D h'' (h''.hide env.locals) ys ⟨lo2, fun b o e => Heap.of_hide e, hL2⟩ (fun b o e => up b o (k1 b o e)) D2 (Paired.mono (fun a b x => qt.mono _ _ a b x up) ps) _ Q E rfl fun v h' tk r => q v h' tk r
end
-- what is walked
section
variable {PR : Program} {w : World} {A : Around} {env : Env} {h : Heap}
theorem iters_list {x : Str} {px : Pos} {l : Addr} {items : Array Value} (hh : A.handled = none) (hl : h.IsList l items) : Iters PR w A (.Name x px) (.ref l) h h items.size [l] fun i v _ => items[i]? = some v where
  go := fun s Q E e q => by
    subst e
    have hlt : l < s.heap.objs.size := by obtain ⟨_, e, _⟩ := hl; exact Heap.lt_size e
    have up : ∀ b o, s.heap.get? b = some o → (s.heap.push { cls := .type "list_iterator", data := .fields #[.ref l, .int 0 0] }).get? b = some o := fun b o e => Heap.get?_push_of_some _ e
    refine wpAny_pyIter_list hl (q _ _ s.toks ⟨_, _, _, _, _, rfl, KTurns.ofWalks (Walks.list hh s.heap.objs.size l (Nat.ne_of_lt hlt) items) (fun _ _ _ _ _ _ hq => wpAny_pure hq), ⟨⟨_, Heap.get?_push_size _ rfl, rfl, rfl⟩, hl.push _⟩, ?_, ?_, ?_, up, ?_⟩)
    · rintro i h ⟨⟨o, e, _⟩, ⟨o', e', _⟩⟩ b hb
      revert b hb; refine Mine.allc ?_ fun b hb => ?_
      · exact ⟨o, e⟩
      · revert b hb; refine Mine.all1 ?_; exact ⟨o', e'⟩
    · intro b hb
      revert b hb; refine Mine.all1 ?_; exact fresh_size (Nat.le_refl _)
    · intro b hb
      revert b hb; refine Mine.allc ?_ fun b hb => ?_
      · exact .inl (.head _)
      · exact .inr hb
    · exact fun i s Q E st hq => wpAny_pyIter_listiter st.1 hq
theorem asg_name {x : Str} {px : Pos} {scope : Scope} {cl : List (Str × Addr)} {C : Addr} {v : Value} {d : D} {g : Heap} {m : Str → Option Value} (hx : scope.names.lookup x = some .local) (hkind : scope.kind = .function) (hd : d.Is v) (hn : g.Ns C m) :
    Do PR w A (assign (.Name x px) (compEnvC scope cl C env) v) g fun _ g' => Lo g' C [(x, d)] ∧ ∀ b o, b ≠ C → g.get? b = some o → g'.get? b = some o := fun s Q E e q => by
  subst e
  refine wpAny_assign_Name (wpAny_storeName_local (lookup_relabel_local hx) hn (fun h₂ hn₂ hs₂ => q () h₂ _ ⟨?_, fun b o hb e => hs₂.extBut b o hb e⟩) (by simp [compEnvC, relabel, hkind]))
  exact Lo.put (l := []) hn₂ (fun _ _ e => by cases e) hd
theorem asg_pair {x y : Str} {px py tp : Pos} {kk : Nat} {scope : Scope} {cl : List (Str × Addr)} {C T : Addr} {v u : Value} {d e : D} {g : Heap} {m : Str → Option Value} (hh : A.handled = none) (hx : scope.names.lookup x = some .local) (hy : scope.names.lookup y = some .local) (hkind : scope.kind = .function) (ht : g.IsTuple T #[v, u]) (hd : d.Is v) (he : e.Is u) (hn : g.Ns C m) :
    Do PR w A (assign (.Tuple [.Name x px, .Name y py] kk tp) (compEnvC scope cl C env) (.ref T)) g fun _ g' => Lo g' C [(y, e), (x, d)] ∧ ∀ b o, b ≠ C → g.get? b = some o → g'.get? b = some o := fun s Q E es q => by
  subst es
  refine kcp_assign (env := compEnvC scope cl C env) hh ht (lookup_relabel_local hx) (lookup_relabel_local hy) (by simp [compEnvC, relabel, hkind]) hn fun h₄ tk₄ hn₄ hs₄ => q () h₄ tk₄ ⟨?_, hs₄⟩
  refine Lo.put (m := fun z => if z = x then some v else m z) hn₄ ?_ he
  intro z dz ez
  rw [List.lookup_cons] at ez
  by_cases hz : z = x
  · subst hz; simp at ez; subst ez; exact ⟨v, by simp, hd⟩
  · have : (z == x) = false := by simpa using hz
    rw [this] at ez; cases ez
theorem iters_enum {elts : List Expr} {kk : Nat} {tp : Pos} {e it l : Addr} {items : Array Value} {base : Heap} (hh : A.handled = none) (he : IsEnum h e it 0 .none) (hi : h.IsListIter it l 0) (hl : base.IsList l items) (k : base.StaysIn h) (hei : e ≠ it) (ne : base.get? e = none) (ni : base.get? it = none) :
    Iters PR w A (.Tuple elts kk tp) (.ref e) base h items.size [l] fun i v g => X3 (fun T t x => C3 (v = .ref T) (items[i]? = some x) (g.IsTuple T #[.int i t, x])) where
  go := fun s Q E es q => by
    subst es
    have hle : l ≠ e := fun q => by obtain ⟨o, z, _⟩ := hl; exact no_at q ne z
    have hli : l ≠ it := fun q => by obtain ⟨o, z, _⟩ := hl; exact no_at q ni z
    have W := KTurns.ofWalksU (elts := elts) (k := kk) (pos := tp) (WalksT.toU (WalksT.enumerate (prog := PR) (w := w) (A := A) hh e it l hei hle hli items))
    refine wpAny_pyIter_enum he ?_
    refine Do.now (h := s.heap) rfl q ⟨_, _, _, _, _, rfl, ⟨W.sub, W.frame, W.item, fun i v s Q E hm hQ => W.go i v s Q E hm fun h' hP => hQ h' ?_, W.done⟩, ⟨⟨_, he⟩, hi, IsList_keeps hl k⟩, ?_, ?_, ?_, k, ?_⟩
    · obtain ⟨T, vals, rfl, ⟨t, x, hx, rfl⟩, ht⟩ := hP
      exact ⟨T, t, x, rfl, hx, ht⟩
    · rintro i h ⟨⟨old, e1⟩, ⟨o, e2, _⟩, ⟨o', e3, _⟩⟩ b hb
      revert b hb; refine Mine.allc ?_ fun b hb => ?_
      · exact ⟨_, e1⟩
      · revert b hb; refine Mine.allc ?_ fun b hb => ?_
        · exact ⟨_, e2⟩
        · revert b hb; refine Mine.all1 ?_; exact ⟨_, e3⟩
    · intro b hb
      revert b hb; refine Mine.allc ?_ fun b hb => ?_
      · exact ne
      · revert b hb; refine Mine.all1 ?_; exact ni
    · intro b hb
      revert b hb; refine Mine.allc ?_ fun b hb => ?_
      · exact .inl (.head _)
      · revert b hb; refine Mine.allc ?_ fun b hb => ?_
        · exact .inl (.tail _ (.head _))
        · exact .inr hb
    · exact fun i s Q E st hq => let ⟨old, e⟩ := st.1; wpAny_pyIter_enum e hq
end
end Mine
end

-- Base
section
open PySem PySem.W PySem.Calls PyProof.Rows PySem.Spec PySem.SeqAt
set_option tactic.hygienic false
namespace Mine
-- class C's method name is the def at f
noncomputable def ownMethod (K : Frag) (C : Addr) (name : Str) (f : Addr) : Bool := plainGet K C name && findIn K (.ref C) name == some (some (.ref f)) && isFn K (.ref f)
section
variable {PR : Program} {w : World} {A : Around} {env : Env} {h : Heap} {K : Frag}
noncomputable abbrev MethodTree (o : Expr) (name : Str) (apos pos : Pos) (args : List Expr) (env : Env) (pl : Sem Bool) : Prop := eval (.Call (.Attribute o name apos) args [] pos) env = (do
      let ov ← eval o env
      standAt apos.atName
      let (f, first) ← holding [ov] (getMethod ov name pl)
      callWith pos f first (backTo pos (starEach args env)) (backToKw pos (keywordEach [] env)))
theorem DoMethod {o : Expr} {name : Str} {apos pos : Pos} {args : List Expr} {C f : Addr} {pl : Sem Bool} {P : Value → Heap → Prop} {R : Value → Heap → Prop} (dO : Do PR w A (eval o env) h P) (hm : ownMethod K C name f = true)
    (k : ∀ u h1, P u h1 → X5 (fun x C' dx es n => C6 (C' = C) (u = .ref x) (Ok K h1) (Inst h1 x C' dx es n) (getL name es = some none) (Do PR w A (callWith pos (.ref f) [.ref x] (backTo pos (starEach args env)) []) h1 R))) (he : MethodTree o name apos pos args env pl := by with_unfolding_all rfl) :
    Do PR w A (eval (.Call (.Attribute o name apos) args [] pos) env) h R := fun s Q E e q =>
  methodCall_KW (pl := pl) (kws := []) (dO s _ E e fun u h1 tk p => by
    obtain ⟨x, C', dx, es, n, rfl, rfl, B, I, hl, kk⟩ := k u h1 p
    simp only [ownMethod, Bool.and_eq_true, beq_iff_eq] at hm
    exact method_fn (s := { s with heap := h1, toks := tk }) B.k I.at (plainGet_of hm.1.1).1 (plainGet_of hm.1.1).2 hm.1.2 (beq_iff_eq.mp hm.2) (by show (lookIn name (dictOf es n)).map _ = _; rw [lookIn_dict, hl]; rfl) (kk _ Q E rfl fun v h' tk r => q v h' tk r)) he
end
end Mine
end

-- Facts
section
open PySem PySem.W PySem.Calls PyProof.Rows
set_option tactic.hygienic false
namespace Mine
theorem gl_READY {P : Params} : ∃ t, nsIn (KP P) mainGlobals "READY" = some (some (.str "ready" t)) := ⟨_, by (first | (with_reducible apply Mine.kp_look; (focus k_is); decide) | (with_reducible apply Mine.kp_ns; (focus k_is); decide) | kernel_rfl)⟩
theorem gl_BLOCKED {P : Params} : ∃ t, nsIn (KP P) mainGlobals "BLOCKED" = some (some (.str "blocked" t)) := ⟨_, by (first | (with_reducible apply Mine.kp_look; (focus k_is); decide) | (with_reducible apply Mine.kp_ns; (focus k_is); decide) | kernel_rfl)⟩
theorem gl_ENDED {P : Params} : ∃ t, nsIn (KP P) mainGlobals "ENDED" = some (some (.str "ended" t)) := ⟨_, by (first | (with_reducible apply Mine.kp_look; (focus k_is); decide) | (with_reducible apply Mine.kp_ns; (focus k_is); decide) | kernel_rfl)⟩
theorem gl_range {P : Params} : nsIn (KP P) mainGlobals "range" = some .none := by (first | (with_reducible apply Mine.kp_look; (focus k_is); decide) | (with_reducible apply Mine.kp_ns; (focus k_is); decide) | kernel_rfl)
theorem gl_max {P : Params} : nsIn (KP P) mainGlobals "max" = some .none := by (first | (with_reducible apply Mine.kp_look; (focus k_is); decide) | (with_reducible apply Mine.kp_ns; (focus k_is); decide) | kernel_rfl)
theorem gl_len {P : Params} : nsIn (KP P) mainGlobals "len" = some .none := by (first | (with_reducible apply Mine.kp_look; (focus k_is); decide) | (with_reducible apply Mine.kp_ns; (focus k_is); decide) | kernel_rfl)
theorem gl_enumerate {P : Params} : nsIn (KP P) mainGlobals "enumerate" = some .none := by (first | (with_reducible apply Mine.kp_look; (focus k_is); decide) | (with_reducible apply Mine.kp_ns; (focus k_is); decide) | kernel_rfl)
theorem gl_list {P : Params} : nsIn (KP P) mainGlobals "list" = some .none := by (first | (with_reducible apply Mine.kp_look; (focus k_is); decide) | (with_reducible apply Mine.kp_ns; (focus k_is); decide) | kernel_rfl)
theorem gl_str {P : Params} : nsIn (KP P) mainGlobals "str" = some .none := by (first | (with_reducible apply Mine.kp_look; (focus k_is); decide) | (with_reducible apply Mine.kp_ns; (focus k_is); decide) | kernel_rfl)
theorem gl_Choices {P : Params} : nsIn (KP P) mainGlobals "Choices" = some (some (.ref 185)) := by (first | (with_reducible apply Mine.kp_look; (focus k_is); decide) | (with_reducible apply Mine.kp_ns; (focus k_is); decide) | kernel_rfl)
theorem gl_Scheduler {P : Params} : nsIn (KP P) mainGlobals "Scheduler" = some (some (.ref 157)) := by (first | (with_reducible apply Mine.kp_look; (focus k_is); decide) | (with_reducible apply Mine.kp_ns; (focus k_is); decide) | kernel_rfl)
theorem gl_Goroutine {P : Params} : nsIn (KP P) mainGlobals "Goroutine" = some (some (.ref 71)) := by (first | (with_reducible apply Mine.kp_look; (focus k_is); decide) | (with_reducible apply Mine.kp_ns; (focus k_is); decide) | kernel_rfl)
theorem gl_MachineFault {P : Params} : nsIn (KP P) mainGlobals "MachineFault" = some (some (.ref 52)) := by (first | (with_reducible apply Mine.kp_look; (focus k_is); decide) | (with_reducible apply Mine.kp_ns; (focus k_is); decide) | kernel_rfl)
theorem gl_law_pool {P : Params} : nsIn (KP P) mainGlobals "_law_pool" = some (some (.ref 196)) := by (first | (with_reducible apply Mine.kp_look; (focus k_is); decide) | (with_reducible apply Mine.kp_ns; (focus k_is); decide) | kernel_rfl)
theorem gl_law_take {P : Params} : nsIn (KP P) mainGlobals "_law_take" = some (some (.ref 203)) := by (first | (with_reducible apply Mine.kp_look; (focus k_is); decide) | (with_reducible apply Mine.kp_ns; (focus k_is); decide) | kernel_rfl)
theorem gl_law_stands {P : Params} : nsIn (KP P) mainGlobals "_law_stands" = some (some (.ref 215)) := by (first | (with_reducible apply Mine.kp_look; (focus k_is); decide) | (with_reducible apply Mine.kp_ns; (focus k_is); decide) | kernel_rfl)
theorem gl_law_fell {P : Params} : nsIn (KP P) mainGlobals "_law_fell" = some (some (.ref 222)) := by (first | (with_reducible apply Mine.kp_look; (focus k_is); decide) | (with_reducible apply Mine.kp_ns; (focus k_is); decide) | kernel_rfl)
theorem gl_law_chosen {P : Params} : nsIn (KP P) mainGlobals "_law_chosen" = some (some (.ref 227)) := by (first | (with_reducible apply Mine.kp_look; (focus k_is); decide) | (with_reducible apply Mine.kp_ns; (focus k_is); decide) | kernel_rfl)
theorem gl_law_deed {P : Params} : nsIn (KP P) mainGlobals "_law_deed" = some (some (.ref 234)) := by (first | (with_reducible apply Mine.kp_look; (focus k_is); decide) | (with_reducible apply Mine.kp_ns; (focus k_is); decide) | kernel_rfl)
theorem gl_law_drawn_right {P : Params} : nsIn (KP P) mainGlobals "_law_drawn_right" = some (some (.ref 239)) := by (first | (with_reducible apply Mine.kp_look; (focus k_is); decide) | (with_reducible apply Mine.kp_ns; (focus k_is); decide) | kernel_rfl)
theorem gl_law_fixed_right {P : Params} : nsIn (KP P) mainGlobals "_law_fixed_right" = some (some (.ref 246)) := by (first | (with_reducible apply Mine.kp_look; (focus k_is); decide) | (with_reducible apply Mine.kp_ns; (focus k_is); decide) | kernel_rfl)
theorem om_spawn {P : Params} : ownMethod (KP P) 157 "spawn" 96 = true := by
  simp only [ownMethod, Bool.and_eq_true, beq_iff_eq]
  exact ⟨⟨by (first | (with_reducible apply Mine.kp_look; (focus k_is); decide) | (with_reducible apply Mine.kp_ns; (focus k_is); decide) | kernel_rfl), by (first | (with_reducible apply Mine.kp_look; (focus k_is); decide) | (with_reducible apply Mine.kp_ns; (focus k_is); decide) | kernel_rfl)⟩, by (first | (with_reducible apply Mine.kp_look; (focus k_is); decide) | (with_reducible apply Mine.kp_ns; (focus k_is); decide) | kernel_rfl)⟩
theorem om_of {P : Params} : ownMethod (KP P) 157 "of" 103 = true := by
  simp only [ownMethod, Bool.and_eq_true, beq_iff_eq]
  exact ⟨⟨by (first | (with_reducible apply Mine.kp_look; (focus k_is); decide) | (with_reducible apply Mine.kp_ns; (focus k_is); decide) | kernel_rfl), by (first | (with_reducible apply Mine.kp_look; (focus k_is); decide) | (with_reducible apply Mine.kp_ns; (focus k_is); decide) | kernel_rfl)⟩, by (first | (with_reducible apply Mine.kp_look; (focus k_is); decide) | (with_reducible apply Mine.kp_ns; (focus k_is); decide) | kernel_rfl)⟩
theorem om_ready_ones {P : Params} : ownMethod (KP P) 157 "ready_ones" 108 = true := by
  simp only [ownMethod, Bool.and_eq_true, beq_iff_eq]
  exact ⟨⟨by (first | (with_reducible apply Mine.kp_look; (focus k_is); decide) | (with_reducible apply Mine.kp_ns; (focus k_is); decide) | kernel_rfl), by (first | (with_reducible apply Mine.kp_look; (focus k_is); decide) | (with_reducible apply Mine.kp_ns; (focus k_is); decide) | kernel_rfl)⟩, by (first | (with_reducible apply Mine.kp_look; (focus k_is); decide) | (with_reducible apply Mine.kp_ns; (focus k_is); decide) | kernel_rfl)⟩
theorem om_block {P : Params} : ownMethod (KP P) 157 "block" 115 = true := by
  simp only [ownMethod, Bool.and_eq_true, beq_iff_eq]
  exact ⟨⟨by (first | (with_reducible apply Mine.kp_look; (focus k_is); decide) | (with_reducible apply Mine.kp_ns; (focus k_is); decide) | kernel_rfl), by (first | (with_reducible apply Mine.kp_look; (focus k_is); decide) | (with_reducible apply Mine.kp_ns; (focus k_is); decide) | kernel_rfl)⟩, by (first | (with_reducible apply Mine.kp_look; (focus k_is); decide) | (with_reducible apply Mine.kp_ns; (focus k_is); decide) | kernel_rfl)⟩
theorem om_wake {P : Params} : ownMethod (KP P) 157 "wake" 123 = true := by
  simp only [ownMethod, Bool.and_eq_true, beq_iff_eq]
  exact ⟨⟨by (first | (with_reducible apply Mine.kp_look; (focus k_is); decide) | (with_reducible apply Mine.kp_ns; (focus k_is); decide) | kernel_rfl), by (first | (with_reducible apply Mine.kp_look; (focus k_is); decide) | (with_reducible apply Mine.kp_ns; (focus k_is); decide) | kernel_rfl)⟩, by (first | (with_reducible apply Mine.kp_look; (focus k_is); decide) | (with_reducible apply Mine.kp_ns; (focus k_is); decide) | kernel_rfl)⟩
theorem om_take_answer {P : Params} : ownMethod (KP P) 157 "take_answer" 130 = true := by
  simp only [ownMethod, Bool.and_eq_true, beq_iff_eq]
  exact ⟨⟨by (first | (with_reducible apply Mine.kp_look; (focus k_is); decide) | (with_reducible apply Mine.kp_ns; (focus k_is); decide) | kernel_rfl), by (first | (with_reducible apply Mine.kp_look; (focus k_is); decide) | (with_reducible apply Mine.kp_ns; (focus k_is); decide) | kernel_rfl)⟩, by (first | (with_reducible apply Mine.kp_look; (focus k_is); decide) | (with_reducible apply Mine.kp_ns; (focus k_is); decide) | kernel_rfl)⟩
theorem om_end {P : Params} : ownMethod (KP P) 157 "end" 137 = true := by
  simp only [ownMethod, Bool.and_eq_true, beq_iff_eq]
  exact ⟨⟨by (first | (with_reducible apply Mine.kp_look; (focus k_is); decide) | (with_reducible apply Mine.kp_ns; (focus k_is); decide) | kernel_rfl), by (first | (with_reducible apply Mine.kp_look; (focus k_is); decide) | (with_reducible apply Mine.kp_ns; (focus k_is); decide) | kernel_rfl)⟩, by (first | (with_reducible apply Mine.kp_look; (focus k_is); decide) | (with_reducible apply Mine.kp_ns; (focus k_is); decide) | kernel_rfl)⟩
theorem om_choose {P : Params} : ownMethod (KP P) 157 "choose" 144 = true := by
  simp only [ownMethod, Bool.and_eq_true, beq_iff_eq]
  exact ⟨⟨by (first | (with_reducible apply Mine.kp_look; (focus k_is); decide) | (with_reducible apply Mine.kp_ns; (focus k_is); decide) | kernel_rfl), by (first | (with_reducible apply Mine.kp_look; (focus k_is); decide) | (with_reducible apply Mine.kp_ns; (focus k_is); decide) | kernel_rfl)⟩, by (first | (with_reducible apply Mine.kp_look; (focus k_is); decide) | (with_reducible apply Mine.kp_ns; (focus k_is); decide) | kernel_rfl)⟩
theorem om_is_deadlocked {P : Params} : ownMethod (KP P) 157 "is_deadlocked" 149 = true := by
  simp only [ownMethod, Bool.and_eq_true, beq_iff_eq]
  exact ⟨⟨by (first | (with_reducible apply Mine.kp_look; (focus k_is); decide) | (with_reducible apply Mine.kp_ns; (focus k_is); decide) | kernel_rfl), by (first | (with_reducible apply Mine.kp_look; (focus k_is); decide) | (with_reducible apply Mine.kp_ns; (focus k_is); decide) | kernel_rfl)⟩, by (first | (with_reducible apply Mine.kp_look; (focus k_is); decide) | (with_reducible apply Mine.kp_ns; (focus k_is); decide) | kernel_rfl)⟩
theorem om_waiting_rows {P : Params} : ownMethod (KP P) 157 "waiting_rows" 154 = true := by
  simp only [ownMethod, Bool.and_eq_true, beq_iff_eq]
  exact ⟨⟨by (first | (with_reducible apply Mine.kp_look; (focus k_is); decide) | (with_reducible apply Mine.kp_ns; (focus k_is); decide) | kernel_rfl), by (first | (with_reducible apply Mine.kp_look; (focus k_is); decide) | (with_reducible apply Mine.kp_ns; (focus k_is); decide) | kernel_rfl)⟩, by (first | (with_reducible apply Mine.kp_look; (focus k_is); decide) | (with_reducible apply Mine.kp_ns; (focus k_is); decide) | kernel_rfl)⟩
theorem om_pick {P : Params} : ownMethod (KP P) 185 "pick" 182 = true := by
  simp only [ownMethod, Bool.and_eq_true, beq_iff_eq]
  exact ⟨⟨by (first | (with_reducible apply Mine.kp_look; (focus k_is); decide) | (with_reducible apply Mine.kp_ns; (focus k_is); decide) | kernel_rfl), by (first | (with_reducible apply Mine.kp_look; (focus k_is); decide) | (with_reducible apply Mine.kp_ns; (focus k_is); decide) | kernel_rfl)⟩, by (first | (with_reducible apply Mine.kp_look; (focus k_is); decide) | (with_reducible apply Mine.kp_ns; (focus k_is); decide) | kernel_rfl)⟩
theorem oa_157_choices {P : Params} : ownAttr (KP P) 157 "choices" = true := by
  simp only [ownAttr, Bool.and_eq_true, beq_iff_eq]
  exact ⟨⟨by (first | (with_reducible apply Mine.kp_look; (focus k_is); decide) | (with_reducible apply Mine.kp_ns; (focus k_is); decide) | kernel_rfl), by (first | (with_reducible apply Mine.kp_look; (focus k_is); decide) | (with_reducible apply Mine.kp_ns; (focus k_is); decide) | kernel_rfl)⟩, by (first | (with_reducible apply Mine.kp_look; (focus k_is); decide) | (with_reducible apply Mine.kp_ns; (focus k_is); decide) | kernel_rfl)⟩
theorem os_157_choices {P : Params} : ownStore (KP P) 157 "choices" = true := by
  simp only [ownStore, Bool.and_eq_true, beq_iff_eq]
  exact ⟨⟨⟨by (first | (with_reducible apply Mine.kp_look; (focus k_is); decide) | (with_reducible apply Mine.kp_ns; (focus k_is); decide) | kernel_rfl), by (first | (with_reducible apply Mine.kp_look; (focus k_is); decide) | (with_reducible apply Mine.kp_ns; (focus k_is); decide) | kernel_rfl)⟩, by (first | (with_reducible apply Mine.kp_look; (focus k_is); decide) | (with_reducible apply Mine.kp_ns; (focus k_is); decide) | kernel_rfl)⟩, by show hasDictIn _ _ = true; (first | (with_reducible apply Mine.kp_look; (focus k_is); decide) | (with_reducible apply Mine.kp_ns; (focus k_is); decide) | kernel_rfl)⟩
theorem oa_157_all {P : Params} : ownAttr (KP P) 157 "all" = true := by
  simp only [ownAttr, Bool.and_eq_true, beq_iff_eq]
  exact ⟨⟨by (first | (with_reducible apply Mine.kp_look; (focus k_is); decide) | (with_reducible apply Mine.kp_ns; (focus k_is); decide) | kernel_rfl), by (first | (with_reducible apply Mine.kp_look; (focus k_is); decide) | (with_reducible apply Mine.kp_ns; (focus k_is); decide) | kernel_rfl)⟩, by (first | (with_reducible apply Mine.kp_look; (focus k_is); decide) | (with_reducible apply Mine.kp_ns; (focus k_is); decide) | kernel_rfl)⟩
theorem os_157_all {P : Params} : ownStore (KP P) 157 "all" = true := by
  simp only [ownStore, Bool.and_eq_true, beq_iff_eq]
  exact ⟨⟨⟨by (first | (with_reducible apply Mine.kp_look; (focus k_is); decide) | (with_reducible apply Mine.kp_ns; (focus k_is); decide) | kernel_rfl), by (first | (with_reducible apply Mine.kp_look; (focus k_is); decide) | (with_reducible apply Mine.kp_ns; (focus k_is); decide) | kernel_rfl)⟩, by (first | (with_reducible apply Mine.kp_look; (focus k_is); decide) | (with_reducible apply Mine.kp_ns; (focus k_is); decide) | kernel_rfl)⟩, by show hasDictIn _ _ = true; (first | (with_reducible apply Mine.kp_look; (focus k_is); decide) | (with_reducible apply Mine.kp_ns; (focus k_is); decide) | kernel_rfl)⟩
theorem oa_157_here {P : Params} : ownAttr (KP P) 157 "here" = true := by
  simp only [ownAttr, Bool.and_eq_true, beq_iff_eq]
  exact ⟨⟨by (first | (with_reducible apply Mine.kp_look; (focus k_is); decide) | (with_reducible apply Mine.kp_ns; (focus k_is); decide) | kernel_rfl), by (first | (with_reducible apply Mine.kp_look; (focus k_is); decide) | (with_reducible apply Mine.kp_ns; (focus k_is); decide) | kernel_rfl)⟩, by (first | (with_reducible apply Mine.kp_look; (focus k_is); decide) | (with_reducible apply Mine.kp_ns; (focus k_is); decide) | kernel_rfl)⟩
theorem os_157_here {P : Params} : ownStore (KP P) 157 "here" = true := by
  simp only [ownStore, Bool.and_eq_true, beq_iff_eq]
  exact ⟨⟨⟨by (first | (with_reducible apply Mine.kp_look; (focus k_is); decide) | (with_reducible apply Mine.kp_ns; (focus k_is); decide) | kernel_rfl), by (first | (with_reducible apply Mine.kp_look; (focus k_is); decide) | (with_reducible apply Mine.kp_ns; (focus k_is); decide) | kernel_rfl)⟩, by (first | (with_reducible apply Mine.kp_look; (focus k_is); decide) | (with_reducible apply Mine.kp_ns; (focus k_is); decide) | kernel_rfl)⟩, by show hasDictIn _ _ = true; (first | (with_reducible apply Mine.kp_look; (focus k_is); decide) | (with_reducible apply Mine.kp_ns; (focus k_is); decide) | kernel_rfl)⟩
theorem oa_71_number {P : Params} : ownAttr (KP P) 71 "number" = true := by
  simp only [ownAttr, Bool.and_eq_true, beq_iff_eq]
  exact ⟨⟨by (first | (with_reducible apply Mine.kp_look; (focus k_is); decide) | (with_reducible apply Mine.kp_ns; (focus k_is); decide) | kernel_rfl), by (first | (with_reducible apply Mine.kp_look; (focus k_is); decide) | (with_reducible apply Mine.kp_ns; (focus k_is); decide) | kernel_rfl)⟩, by (first | (with_reducible apply Mine.kp_look; (focus k_is); decide) | (with_reducible apply Mine.kp_ns; (focus k_is); decide) | kernel_rfl)⟩
theorem os_71_number {P : Params} : ownStore (KP P) 71 "number" = true := by
  simp only [ownStore, Bool.and_eq_true, beq_iff_eq]
  exact ⟨⟨⟨by (first | (with_reducible apply Mine.kp_look; (focus k_is); decide) | (with_reducible apply Mine.kp_ns; (focus k_is); decide) | kernel_rfl), by (first | (with_reducible apply Mine.kp_look; (focus k_is); decide) | (with_reducible apply Mine.kp_ns; (focus k_is); decide) | kernel_rfl)⟩, by (first | (with_reducible apply Mine.kp_look; (focus k_is); decide) | (with_reducible apply Mine.kp_ns; (focus k_is); decide) | kernel_rfl)⟩, by show hasDictIn _ _ = true; (first | (with_reducible apply Mine.kp_look; (focus k_is); decide) | (with_reducible apply Mine.kp_ns; (focus k_is); decide) | kernel_rfl)⟩
theorem oa_71_state {P : Params} : ownAttr (KP P) 71 "state" = true := by
  simp only [ownAttr, Bool.and_eq_true, beq_iff_eq]
  exact ⟨⟨by (first | (with_reducible apply Mine.kp_look; (focus k_is); decide) | (with_reducible apply Mine.kp_ns; (focus k_is); decide) | kernel_rfl), by (first | (with_reducible apply Mine.kp_look; (focus k_is); decide) | (with_reducible apply Mine.kp_ns; (focus k_is); decide) | kernel_rfl)⟩, by (first | (with_reducible apply Mine.kp_look; (focus k_is); decide) | (with_reducible apply Mine.kp_ns; (focus k_is); decide) | kernel_rfl)⟩
theorem os_71_state {P : Params} : ownStore (KP P) 71 "state" = true := by
  simp only [ownStore, Bool.and_eq_true, beq_iff_eq]
  exact ⟨⟨⟨by (first | (with_reducible apply Mine.kp_look; (focus k_is); decide) | (with_reducible apply Mine.kp_ns; (focus k_is); decide) | kernel_rfl), by (first | (with_reducible apply Mine.kp_look; (focus k_is); decide) | (with_reducible apply Mine.kp_ns; (focus k_is); decide) | kernel_rfl)⟩, by (first | (with_reducible apply Mine.kp_look; (focus k_is); decide) | (with_reducible apply Mine.kp_ns; (focus k_is); decide) | kernel_rfl)⟩, by show hasDictIn _ _ = true; (first | (with_reducible apply Mine.kp_look; (focus k_is); decide) | (with_reducible apply Mine.kp_ns; (focus k_is); decide) | kernel_rfl)⟩
theorem oa_71_waits_for {P : Params} : ownAttr (KP P) 71 "waits_for" = true := by
  simp only [ownAttr, Bool.and_eq_true, beq_iff_eq]
  exact ⟨⟨by (first | (with_reducible apply Mine.kp_look; (focus k_is); decide) | (with_reducible apply Mine.kp_ns; (focus k_is); decide) | kernel_rfl), by (first | (with_reducible apply Mine.kp_look; (focus k_is); decide) | (with_reducible apply Mine.kp_ns; (focus k_is); decide) | kernel_rfl)⟩, by (first | (with_reducible apply Mine.kp_look; (focus k_is); decide) | (with_reducible apply Mine.kp_ns; (focus k_is); decide) | kernel_rfl)⟩
theorem os_71_waits_for {P : Params} : ownStore (KP P) 71 "waits_for" = true := by
  simp only [ownStore, Bool.and_eq_true, beq_iff_eq]
  exact ⟨⟨⟨by (first | (with_reducible apply Mine.kp_look; (focus k_is); decide) | (with_reducible apply Mine.kp_ns; (focus k_is); decide) | kernel_rfl), by (first | (with_reducible apply Mine.kp_look; (focus k_is); decide) | (with_reducible apply Mine.kp_ns; (focus k_is); decide) | kernel_rfl)⟩, by (first | (with_reducible apply Mine.kp_look; (focus k_is); decide) | (with_reducible apply Mine.kp_ns; (focus k_is); decide) | kernel_rfl)⟩, by show hasDictIn _ _ = true; (first | (with_reducible apply Mine.kp_look; (focus k_is); decide) | (with_reducible apply Mine.kp_ns; (focus k_is); decide) | kernel_rfl)⟩
theorem os_71_frames {P : Params} : ownStore (KP P) 71 "frames" = true := by
  simp only [ownStore, Bool.and_eq_true, beq_iff_eq]
  exact ⟨⟨⟨by (first | (with_reducible apply Mine.kp_look; (focus k_is); decide) | (with_reducible apply Mine.kp_ns; (focus k_is); decide) | kernel_rfl), by (first | (with_reducible apply Mine.kp_look; (focus k_is); decide) | (with_reducible apply Mine.kp_ns; (focus k_is); decide) | kernel_rfl)⟩, by (first | (with_reducible apply Mine.kp_look; (focus k_is); decide) | (with_reducible apply Mine.kp_ns; (focus k_is); decide) | kernel_rfl)⟩, by show hasDictIn _ _ = true; (first | (with_reducible apply Mine.kp_look; (focus k_is); decide) | (with_reducible apply Mine.kp_ns; (focus k_is); decide) | kernel_rfl)⟩
theorem oa_71_answer {P : Params} : ownAttr (KP P) 71 "answer" = true := by
  simp only [ownAttr, Bool.and_eq_true, beq_iff_eq]
  exact ⟨⟨by (first | (with_reducible apply Mine.kp_look; (focus k_is); decide) | (with_reducible apply Mine.kp_ns; (focus k_is); decide) | kernel_rfl), by (first | (with_reducible apply Mine.kp_look; (focus k_is); decide) | (with_reducible apply Mine.kp_ns; (focus k_is); decide) | kernel_rfl)⟩, by (first | (with_reducible apply Mine.kp_look; (focus k_is); decide) | (with_reducible apply Mine.kp_ns; (focus k_is); decide) | kernel_rfl)⟩
theorem os_71_answer {P : Params} : ownStore (KP P) 71 "answer" = true := by
  simp only [ownStore, Bool.and_eq_true, beq_iff_eq]
  exact ⟨⟨⟨by (first | (with_reducible apply Mine.kp_look; (focus k_is); decide) | (with_reducible apply Mine.kp_ns; (focus k_is); decide) | kernel_rfl), by (first | (with_reducible apply Mine.kp_look; (focus k_is); decide) | (with_reducible apply Mine.kp_ns; (focus k_is); decide) | kernel_rfl)⟩, by (first | (with_reducible apply Mine.kp_look; (focus k_is); decide) | (with_reducible apply Mine.kp_ns; (focus k_is); decide) | kernel_rfl)⟩, by show hasDictIn _ _ = true; (first | (with_reducible apply Mine.kp_look; (focus k_is); decide) | (with_reducible apply Mine.kp_ns; (focus k_is); decide) | kernel_rfl)⟩
theorem oa_185_row {P : Params} : ownAttr (KP P) 185 "row" = true := by
  simp only [ownAttr, Bool.and_eq_true, beq_iff_eq]
  exact ⟨⟨by (first | (with_reducible apply Mine.kp_look; (focus k_is); decide) | (with_reducible apply Mine.kp_ns; (focus k_is); decide) | kernel_rfl), by (first | (with_reducible apply Mine.kp_look; (focus k_is); decide) | (with_reducible apply Mine.kp_ns; (focus k_is); decide) | kernel_rfl)⟩, by (first | (with_reducible apply Mine.kp_look; (focus k_is); decide) | (with_reducible apply Mine.kp_ns; (focus k_is); decide) | kernel_rfl)⟩
theorem os_185_row {P : Params} : ownStore (KP P) 185 "row" = true := by
  simp only [ownStore, Bool.and_eq_true, beq_iff_eq]
  exact ⟨⟨⟨by (first | (with_reducible apply Mine.kp_look; (focus k_is); decide) | (with_reducible apply Mine.kp_ns; (focus k_is); decide) | kernel_rfl), by (first | (with_reducible apply Mine.kp_look; (focus k_is); decide) | (with_reducible apply Mine.kp_ns; (focus k_is); decide) | kernel_rfl)⟩, by (first | (with_reducible apply Mine.kp_look; (focus k_is); decide) | (with_reducible apply Mine.kp_ns; (focus k_is); decide) | kernel_rfl)⟩, by show hasDictIn _ _ = true; (first | (with_reducible apply Mine.kp_look; (focus k_is); decide) | (with_reducible apply Mine.kp_ns; (focus k_is); decide) | kernel_rfl)⟩
theorem oa_185_taken {P : Params} : ownAttr (KP P) 185 "taken" = true := by
  simp only [ownAttr, Bool.and_eq_true, beq_iff_eq]
  exact ⟨⟨by (first | (with_reducible apply Mine.kp_look; (focus k_is); decide) | (with_reducible apply Mine.kp_ns; (focus k_is); decide) | kernel_rfl), by (first | (with_reducible apply Mine.kp_look; (focus k_is); decide) | (with_reducible apply Mine.kp_ns; (focus k_is); decide) | kernel_rfl)⟩, by (first | (with_reducible apply Mine.kp_look; (focus k_is); decide) | (with_reducible apply Mine.kp_ns; (focus k_is); decide) | kernel_rfl)⟩
theorem os_185_taken {P : Params} : ownStore (KP P) 185 "taken" = true := by
  simp only [ownStore, Bool.and_eq_true, beq_iff_eq]
  exact ⟨⟨⟨by (first | (with_reducible apply Mine.kp_look; (focus k_is); decide) | (with_reducible apply Mine.kp_ns; (focus k_is); decide) | kernel_rfl), by (first | (with_reducible apply Mine.kp_look; (focus k_is); decide) | (with_reducible apply Mine.kp_ns; (focus k_is); decide) | kernel_rfl)⟩, by (first | (with_reducible apply Mine.kp_look; (focus k_is); decide) | (with_reducible apply Mine.kp_ns; (focus k_is); decide) | kernel_rfl)⟩, by show hasDictIn _ _ = true; (first | (with_reducible apply Mine.kp_look; (focus k_is); decide) | (with_reducible apply Mine.kp_ns; (focus k_is); decide) | kernel_rfl)⟩
end Mine
end

-- All1
section
open PySem PySem.W PySem.Calls PyProof.Rows PySem.Spec PySem.SeqAt
set_option tactic.hygienic false
namespace Mine
section
variable {PR : Program} {w : World} {A : Around} {env : Env} {h : Heap} {K : Frag}
theorem Dtests1 {c : Expr} {R : Bool → Heap → Prop} (d : Do PR w A (isTrue c env (eval c env)) h R) : Do PR w A (testsOf [c] env) h R := fun s Q E e q => wpAny_tests_one (d s Q E e q)
theorem Dtests0 {R : Bool → Heap → Prop} (r : R true h) : Do PR w A (testsOf [] env) h R := fun s Q E e q => wpAny_tests_nil (Do.now e q r)
theorem Pe.glob {x : Str} {pos : Pos} {v : Value} {d : D} (B : Ok K h) (e : nsIn K mainGlobals x = some (some v)) (hv : d.Is v) (hg : env.globals = mainGlobals := by rfl) (hk : env.scope.kind = .function := by rfl) (hx : env.kindOf x = some .globalImplicit := by rfl) (hd : (x == ("__debug__" : Str)) = false := by decide) :
    Pe PR w A (.Name x pos) env h d := (Do.glob B e hg hk hx hd).mono fun u h' p => ⟨p.1, by rw [p.2]; exact hv⟩
end
noncomputable def stIs (x : Str) (r : Row) : Bool := r.st == x
noncomputable def spOf (p : Row → Bool) (rows : List Row) (i : Nat) : Option Nat := if (rows[i]?).any p then some i else none
noncomputable def idxOf (p : Row → Bool) (rows : List Row) : List Nat := selOf (spOf p rows) rows.length
theorem spOf_is {p : Row → Bool} {rows : List Row} {i : Nat} {r : Row} (e : rows[i]? = some r) : (spOf p rows i).isSome = p r := by
  unfold spOf; rw [e]
  cases hq : p r <;> simp [hq]
theorem spOf_eq {p : Row → Bool} {rows : List Row} {i b : Nat} (e : spOf p rows i = some b) : b = i := by
  unfold spOf at e
  split at e <;> simp at e
  exact e.symm
section
variable {PR : Program} {w : World} {A : Around} {env : Env} {h : Heap} {P : Params} {S dS C dC DG AL : Addr} {gs ds : List Addr} {grs : List Row} {here : Option Nat} {digits : List Int} {taken : Int}
theorem quiet_all {β : Type} {scope : Scope} {cl : List (Str × Addr)} {x : Str} {px : Pos} {ifs : List Expr} {elt : Expr} {Z : List Addr} {base : Heap} {sp : Nat → Option β} {F : Heap → Value → β → Prop} (hh : A.handled = none) (SC : Sched P (hideAll base Z) S dS C dC DG AL gs ds grs here digits taken)
    (zin : ∀ a ∈ Z, ∃ o, base.get? a = some o) (hx : scope.names.lookup x = some .local) (hkind : scope.kind = .function) (sz : gs.length ≤ sizeLine) (mono : ∀ g g' y b, F g y b → g.StaysIn g' → F g' y b)
    (turn : ∀ X C i g gi di r, gs[i]? = some gi → ds[i]? = some di → grs[i]? = some r → (hideAll base Z).StaysIn (hideAll g (Z ++ X)) → (∀ a ∈ Z ++ X, ∃ o, g.get? a = some o) → Lo g C [(x, .ref gi)] → GoAt P (hideAll g (Z ++ X)) gi di i r →
      Do PR w A (testsOf ifs (compEnvC scope cl C env)) g fun ok g₁ => g.StaysIn g₁ ∧ ok = (sp i).isSome ∧ ∀ b, sp i = some b → Do PR w A (eval elt (compEnvC scope cl C env)) g₁ fun y g₂ => g₁.StaysIn g₂ ∧ F (hideAll g₂ (Z ++ X)) y b) :
    Quiet PR w A env scope cl (.Name x px) ifs elt (.ref AL) Z base base gs.length sp F [AL] (fun i v _ => (gs.map Value.ref).toArray[i]? = some v) (fun i => [(x, .ref (gs.getD i 0))]) where
  it := by
    have := iters_list (PR := PR) (w := w) (A := A) (x := x) (px := px) hh (IsList_keeps SC.al hideAll_stays)
    simpa using this
  sz := sz
  ol := fun a ha => by
    rw [List.mem_singleton.mp ha]
    obtain ⟨o, e, _⟩ := IsList_keeps SC.al hideAll_stays
    exact ⟨o, e⟩
  asg := fun C i v g m hi hv hn => by
    refine asg_name hx hkind ?_ hn
    have : gs[i]? = some gs[i] := List.getElem?_eq_getElem hi
    simp [this] at hv
    show v = _
    rw [← hv]; simp [hi]
  mono := mono
  zin := zin
  turn := fun X C i g hi k ex lo => by
    have e1 : gs[i]? = some gs[i] := List.getElem?_eq_getElem hi
    have h2 : i < ds.length := by rw [SC.ld, ← SC.lg]; exact hi
    have h3 : i < grs.length := by rw [← SC.lg]; exact hi
    have e2 : ds[i]? = some ds[i] := List.getElem?_eq_getElem h2
    have e3 : grs[i]? = some grs[i] := List.getElem?_eq_getElem h3
    refine turn X C i g _ _ _ e1 e2 e3 k ex ?_ ((SC.go i _ _ _ e1 e2 e3).keeps k)
    have : gs.getD i 0 = gs[i] := by simp [hi]
    rw [this] at lo; exact lo
theorem GoAt.inst {g d : Addr} {i : Nat} {r : Row} (x : GoAt P h g d i r) : X2 (fun es n => Inst h g 71 d es n ∧ X5 (fun ti ts wv fr av => C5 (getL "number" es = some (some (.int i ti))) (getL "state" es = some (some (.str r.st ts))) (getL "waits_for" es = some (some wv)) (getL "answer" es = some (some av)) (C3 (getL "frames" es = some (some fr)) (WtAt h wv r.wt) (AnIs av r.an)))) := by
  obtain ⟨t1, t2, t3, t4, t5, ti, ts, wv, fr, av, n, I, hw, ha⟩ := x.at_
  exact ⟨_, n, I, ti, ts, wv, fr, av, rfl, rfl, rfl, rfl, rfl, hw, ha⟩
end
theorem fresh_of {h h' : Heap} {a : Addr} (k : h.StaysIn h') (n : h'.get? a = none) : h.get? a = none := by
  cases q : h.get? a with
  | none => rfl
  | some o => rw [k _ _ q] at n; cases n
theorem ready_spec {w : World} {A : Around} {h : Heap} {S dS C dC DG AL : Addr} {gs ds : List Addr} {grs : List Row} {here : Option Nat} {digits : List Int} {taken : Int} (B : Ok (KP w.params) h) (hh : A.handled = none) (am : A.depth < recursionLimit)
    (SC : Sched w.params h S dS C dC DG AL gs ds grs here digits taken) (sz : gs.length ≤ 1000) :
    Do PR w A (call (.ref 108) [.ref S] []) h fun v h' => h.StaysIn h' ∧ X2 (fun D ys => C4 (v = .ref D) (h.get? D = none) (h'.IsList D ys.toArray) (Paired (fun v i => ∃ g, gs[i]? = some g ∧ v = .ref g) ys (idxOf (stIs "ready") grs))) := by
  refine' DoDef (args := ⟨[.ref S], []⟩) (binds := [("self", .ref S)]) (l := [("self", .ref S)]) B ?ho ?hcd am ?hb ?hloc (.cons rfl .nil) ?c2 ?c3 ?c4 ?c5 ?go
  case ho => (first | (with_reducible apply Mine.kp_look; (focus k_is); decide) | (with_reducible apply Mine.kp_ns; (focus k_is); decide) | kernel_rfl)
  case hcd => (first | (with_reducible apply Mine.kp_look; (focus k_is); decide) | (with_reducible apply Mine.kp_ns; (focus k_is); decide) | kernel_rfl)
  case hb => exact fun _ _ => BindsTo.of_eq rfl
  case hloc => exact locs rfl
  case c2 => rfl
  case c3 => rfl
  case c4 => rfl
  case c5 => decide
  case go =>
    intro L h1 b
    have B1 := B.keeps b.st
    have S1 := SC.keeps b.st
    obtain ⟨t1, t2, t3, n, IS⟩ := S1.s
    refine Ds.ret (DoCompQ (Pe.attr (d := .ref AL) B1 IS oa_157_all rfl rfl (Pe.loc b.lo rfl)) (closureFor_none (by decide)) (by decide) (by rfl) (by decide) ?_)
    refine Mine.i2 ?_
    obtain ⟨tR, eR⟩ := gl_READY (P := w.params)
    refine ⟨Nat, h1, _, spOf (stIs "ready") grs, fun g v i => ∃ a, gs[i]? = some a ∧ v = .ref a, _, _, _, quiet_all hh S1 (by first | exact List.mem_append_left _ (.head _) | exact List.mem_append_left _ (.tail _ (.head _)) | exact List.mem_append_left _ (.tail _ (.tail _ (.head _))) | exact List.mem_append_left _ (.tail _ (.tail _ (.tail _ (.head _)))) | exact .head _ | exact .tail _ (.head _) | simp) (by rfl) (by rfl) (by first | with_reducible exact sl (by assumption) | with_reducible exact slm (by assumption) | (unfold sizeLine; omega)) (fun _ _ _ _ x _ => x) ?_, ?_⟩
    · intro X C i g gi di r e1 e2 e3 k ex lo G
      have kg : h1.StaysIn g := fun b o e => of_hideAll _ (k b o e)
      have Bg := B1.keeps kg
      obtain ⟨es, ne, I, ti, ts, wv, fr, av, g1, g2, g3, g4, g5, hw, ha⟩ := G.inst
      have I' := I.keeps hideAll_stays
      refine Dtests1 ((Pt.cmp Cmp.eqS (Pe.attr Bg I' oa_71_state g2 ⟨_, rfl⟩ (Pe.loc lo rfl)) (Pe.glob Bg eR ⟨_, rfl⟩)).mono ?_)
      refine i2 ?_
      refine ⟨fun _ _ e => e, ?_, fun b hb => ?_⟩
      · exact (spOf_is (p := stIs "ready") e3).symm
      · have := spOf_eq hb
        subst this
        refine (Pe.loc lo rfl).mono ?_
        refine i1v fun y hy => ?_
        exact ⟨fun _ _ e => e, gi, e1, hy⟩
    · intro D h' ys k D0 hl ps
      refine ⟨fun b' o e => k b' o (b.st b' o e), D, ys, rfl, fresh_of b.st D0, hl, ?_⟩
      rw [SC.lg] at ps
      exact ps
end Mine
end

-- Own
section
open PySem PySem.W PySem.Calls PyProof.Rows PySem.Spec PySem.SeqAt
set_option tactic.hygienic false
namespace Mine
-- room for n calls, one in another
structure Ar (A : Around) (n : Nat) : Prop where
  hh : A.handled = none
  dp : A.depth + n < recursionLimit
  un : A.units + 8 * n + 64 < cLine
theorem Ar.deeper {A : Around} {env : Env} {n : Nat} (x : Ar A (n + 1)) : Ar (A.deeper env) n := ⟨x.hh, ar1 x.dp, ar2 x.un⟩
theorem Ar.less {A : Around} {n m : Nat} (x : Ar A n) (h : m ≤ n := by decide) : Ar A m := ⟨x.hh, Nat.lt_of_le_of_lt (Nat.add_le_add_left h _) x.dp, Nat.lt_of_le_of_lt (Nat.add_le_add_right (Nat.add_le_add_left (Nat.mul_le_mul_left 8 h) _) 64) x.un⟩
theorem Ar.room {A : Around} {n : Nat} (x : Ar A n) : A.depth < recursionLimit := Nat.lt_of_le_of_lt (Nat.le_add_right _ _) x.dp
theorem Ar.c {A : Around} {n : Nat} (x : Ar A n) : A.units + 64 < cLine := Nat.lt_of_le_of_lt (Nat.add_le_add_right (Nat.le_add_right _ _) 64) x.un
theorem Ar.c0 {A : Around} {n : Nat} (x : Ar A n) : A.units < cLine := Nat.lt_of_le_of_lt (Nat.le_add_right _ 64) x.c
-- d has changed: it is no ground any more
theorem Bd.turn {g h h' : Heap} {L d : Addr} {l : List (Str × D)} (b : Bd g L l h) (lo : Lo h' L l) (k : ∀ c o, c ≠ L → c ≠ d → h.get? c = some o → h'.get? c = some o) : Bd (g.hide d) L l h' :=
  ⟨lo, fun c o e => k c o (b.ne (Heap.of_hide e)) (fun q => by rw [q, Heap.hide_self] at e; cases e) (b.st c o (Heap.of_hide e)), by
    cases q : (g.hide d).get? L with
    | none => rfl
    | some o => have := Heap.of_hide q; exact no_one b.own this⟩
theorem Bd.but {g h : Heap} {L d : Addr} {l : List (Str × D)} (b : Bd (g.hide d) L l h) : But d g h := fun c o hc e => b.st c o ((Heap.hide_ne g hc).trans e)
theorem Ok.but {K : Frag} {d : Addr} {h h' : Heap} (x : Ok K h) (k : But d h h') (hd : 254 ≤ d) : Ok K h' := x.low fun b o hb e => k b o (low_ne hb hd) e
section
variable {PR : Program} {w : World} {A : Around} {env : Env} {h : Heap} {K : Frag}
-- o.attr = value, both plain: the object's dict changes, and nothing else
theorem DsSetOwn {o value : Expr} {attr : Str} {pos' pos : Pos} {rest : List Stmt} {g : Heap} {l : List (Str × D)} {x C dx : Addr} {es : List DictEntry} {n : Nat} {d : D} {R : Flow → Heap → Prop} (B : Ok K h) (b : Bd g env.locals l h) (I : Inst h x C dx es n) (hne : dx ≠ env.locals)
    (hc : ownStore K C attr = true) (hg : (getL attr es).isSome = true) (hz : es.length ≤ 100) (dv : Pe PR w A value env h d) (dO : Pe PR w A o env h (.ref x))
    (go : ∀ v t h', d.Is v → Bd (g.hide dx) env.locals l h' → (∀ c o, c ≠ env.locals → c ≠ dx → h.get? c = some o → h'.get? c = some o) → h'.get? dx = some (dictOf (putL attr (PyData.keyHash w.params attr) (.str attr t) v es) (putN attr es n)) → Do PR w A (execs rest env) h' R)
    (hs : swapsWith value (some (.Attribute o attr pos')) pos.line env = pure false := by rfl) : Do PR w A (execs (.Assign [.Attribute o attr pos'] value pos :: rest) env) h R := by
  obtain ⟨m, hn, hq⟩ := b.lo
  refine Ds.setAttr (hs := hs) (P4 := fun h4 => X1 (fun v => C4 (d.Is v) (h4.Ns env.locals m) ((∀ b o, b ≠ env.locals → b ≠ dx → h.get? b = some o → h4.get? b = some o)) (∃ t, h4.get? dx = some (dictOf (putL attr (PyData.keyHash w.params attr) (.str attr t) v es) (putN attr es n))))) dv (fun v h1 p => ?_) ?_
  · revert h1 p; refine i1 fun hd => ?_
    refine dO.mono fun ov h2 p2 => ?_
    revert ov h2 p2; refine i2 ?_
    exact (DoSetAttr B I hn hne hc hg hz).mono fun _ h4 z => ⟨v, hd, z.1, z.2.1, z.2.2⟩
  · rintro h4 ⟨v, hd, hn4, k4, t, e4⟩
    exact go v t h4 hd (b.turn ⟨m, hn4, hq⟩ k4) k4 e4
theorem Pe.len {x : Expr} {np pos : Pos} {l : Addr} {items : Array Value} (B : Ok K h) (e : nsIn K mainGlobals "len" = some .none) (hl : h.IsList l items) (hz : (items.size : Int) < 2 ^ 63) (d : Pe PR w A x env h (.ref l)) (hg : env.globals = mainGlobals := by rfl) (hb : env.builtins = builtinsNs := by rfl) (hk : env.scope.kind = .function := by rfl) (hx : env.kindOf "len" = some .globalImplicit := by rfl)
    (he : starEach [x] env = (false, eval x env) :: starEach [] env := by rfl) : Pe PR w A (.Call (.Name "len" np) [x] [] pos) env h (.int items.size) :=
  Do.callName (Do.builtin B e (v := .builtin "len") (by boot_fast) (by decide) hg hb hk hx) fun u h1 p => by
    revert u h1 p; refine i2 ?_
    refine DoCallWith (K := K) Callable.id (Args.plain1 (he := he) d Args.plain0) (fun vs h2 p => ?_) (he := he)
    revert h2 p; refine i1 fun p => ?_
    obtain ⟨v, rfl, rfl⟩ := p.one
    exact ⟨B, fun s Q E e q => by subst e; exact call_len_list hl hz (Do.tick _ rfl q ⟨rfl, _, rfl⟩)⟩
end
theorem ints_get {vs : List Value} {ns : List Int} (x : IntsAre vs ns) : ∀ (i : Nat) (n : Int), ns[i]? = some n → ∃ t, vs[i]? = some (Value.int n t) := by
  induction x with
  | nil => intro i n e; simp at e
  | cons m t q ih =>
    intro i n e
    cases i with
    | zero => simp at e; subst e; exact ⟨t, rfl⟩
    | succ i => simpa using ih i n (by simpa using e)
theorem ints_len {vs : List Value} {ns : List Int} (x : IntsAre vs ns) : vs.length = ns.length := by
  induction x with
  | nil => rfl
  | cons m t q ih => simp [ih]
noncomputable def pickOf (digits : List Int) (taken : Nat) (many : Nat) : Int := if many ≤ 1 then 0 else match digits[taken]? with | some d => d.fmod many | none => 0
noncomputable def takenOf (taken many : Nat) : Nat := if many ≤ 1 then taken else taken + 1
theorem pick_spec {w : World} {A : Around} {h : Heap} {C dC DG : Addr} {t1 t2 tk tm : Tok} {n taken many : Nat} {vs : List Value} {digits : List Int} (B : Ok (KP w.params) h) (ar : Ar A 1) (hi : 254 ≤ dC) (I : Inst h C 185 dC (chEs w.params t1 t2 (.ref DG) (.int taken tk)) n) (hl : h.IsList DG vs.toArray) (hv : IntsAre vs digits)
    (sz : digits.length ≤ 1000) (st : taken ≤ 1000000) (sm : many ≤ 1000000) :
    Do PR w A (call (.ref 182) [.ref C, .int many tm] []) h fun v h' => (∃ t, v = .int (pickOf digits taken many) t) ∧ But dC h h' ∧ X4 (fun t1 t2 tk n => h'.get? dC = some (dictOf (chEs w.params t1 t2 (.ref DG) (.int (takenOf taken many : Nat) tk)) n)) := by
  refine' DoDef (args := ⟨[.ref C, .int many tm], []⟩) (binds := [("self", .ref C), ("many", .int many tm)]) (l := [("many", .int many), ("self", .ref C)]) B ?ho ?hcd ar.room ?hb ?hloc (.cons ⟨_, rfl⟩ (.cons rfl .nil)) ?c2 ?c3 ?c4 ?c5 ?go
  case ho => (first | (with_reducible apply Mine.kp_look; (focus k_is); decide) | (with_reducible apply Mine.kp_ns; (focus k_is); decide) | kernel_rfl)
  case hcd => (first | (with_reducible apply Mine.kp_look; (focus k_is); decide) | (with_reducible apply Mine.kp_ns; (focus k_is); decide) | kernel_rfl)
  case hb => exact fun _ _ => BindsTo.of_eq rfl
  case hloc => exact locs rfl
  case c2 => rfl
  case c3 => rfl
  case c4 => rfl
  case c5 => decide
  case go =>
    intro L h1 b
    have B1 := B.keeps b.st
    have I1 := I.keeps b.st
    have hne : dC ≠ L := b.ne I.d
    refine Ds.ifRet (Pt.cmp Cmp.le (Pe.loc b.lo rfl) Pe.int) ?_ ?_
    · refine i1 fun hc => ?_
      have hm' : (many : Int) ≤ 1 := by first | exact of_decide_eq_true hc.symm | exact of_decide_eq_false hc.symm | simpa using hc.symm
      have hm : many ≤ 1 := Int.ofNat_le.mp hm'
      refine Ds.ret (Pe.int.mono ?_)
      refine i2t fun t => ?_
      refine ⟨⟨_, rfl⟩, ⟨t, ?_⟩, fun c o _ e => b.st c o e, t1, t2, tk, n, ?_⟩
      · unfold pickOf; rw [if_pos hm]; rfl
      · unfold takenOf; rw [if_pos hm]; exact I1.d
    · refine i1 fun hc => ?_
      have hm' : (1 : Int) < many := by first | exact of_decide_eq_true hc.symm | exact of_decide_eq_false hc.symm | simpa using hc.symm
      have hm : ¬ many ≤ 1 := Nat.not_le.mpr (Int.ofNat_lt.mp hm')
      refine Ds.let b (Pe.attr (d := .int taken) B1 I1 oa_185_taken rfl ⟨_, rfl⟩ (Pe.loc b.lo rfl)) fun h3 b3 => ?_
      have B3 := B.keeps b3.st
      have I3 := I.keeps b3.st
      refine DsSetOwn B3 b3 I3 hne os_185_taken rfl (by show 2 ≤ 100; decide) (Pe.add (Pe.loc b3.lo rfl) Pe.int) (Pe.loc b3.lo rfl) ?_
      rintro v t h4 ⟨t4, rfl⟩ b4 k4 e4
      have B4 : Ok (KP w.params) h4 := B.but b4.but hi
      have I4 : Inst h4 C 185 dC (chEs w.params t1 t2 (.ref DG) (.int ((taken : Int) + 1) t4)) n := ⟨b4.but _ _ (by intro q; have := I.o; rw [q, I.d] at this; cases this) I.o, e4⟩
      have hDC : DG ≠ dC := list_ne hl I.d (by first | exact List.mem_append_left _ (.head _) | exact List.mem_append_left _ (.tail _ (.head _)) | exact List.mem_append_left _ (.tail _ (.tail _ (.head _))) | exact List.mem_append_left _ (.tail _ (.tail _ (.tail _ (.head _)))) | exact .head _ | exact .tail _ (.head _) | simp)
      have l4 : h4.IsList DG vs.toArray := b4.but.list hDC hl
      have hlen := ints_len hv
      refine Ds.ret ?_
      refine Do.mono (P := fun v h' => h' = h4 ∧ ∃ t, v = .int (pickOf digits taken many) t) (Do.ifExp (Pt.cmp Cmp.lt (Pe.loc b4.lo rfl) (Pe.len B4 gl_len l4 (by first | with_reducible exact zlen (by assumption) | with_reducible exact zlenE (by assumption) (by assumption) | with_reducible exact zvs (by assumption) | with_reducible exact zvsE (by assumption) (by assumption) | (simp; omega)) (Pe.attr (d := .ref DG) B4 I4 oa_185_row rfl rfl (Pe.loc b4.lo rfl)))) ?_ ?_) ?_
      · refine i1 fun hc => ?_
        have hlt : taken < digits.length := by
          have : (taken : Int) < (vs.length : Int) := by first | exact of_decide_eq_true hc.symm | exact of_decide_eq_false hc.symm | simpa using hc.symm
          omega
        obtain ⟨td, ed⟩ := ints_get hv taken _ (List.getElem?_eq_getElem hlt)
        refine (Pe.mod (a := digits[taken]) (b := many) (by with_reducible first | exact Int.natCast_nonneg _ | exact z63 (by assumption) (by assumption) | exact z65 (by assumption) (by assumption) | exact zn (by assumption) | exact le5 (by assumption) (by assumption) | exact Int.ofNat_lt.mpr (by assumption) | exact Nat.le_of_lt (by assumption) | exact Nat.le_trans (by assumption) (by decide) | omega) (Pe.item l4 (i := taken) (by with_reducible first | exact Int.natCast_nonneg _ | exact z63 (by assumption) (by assumption) | exact z65 (by assumption) (by assumption) | exact zn (by assumption) | exact le5 (by assumption) (by assumption) | exact Int.ofNat_lt.mpr (by assumption) | exact Nat.le_of_lt (by assumption) | exact Nat.le_trans (by assumption) (by decide) | omega) (by with_reducible first | exact Int.natCast_nonneg _ | exact z63 (by assumption) (by assumption) | exact z65 (by assumption) (by assumption) | exact zn (by assumption) | exact le5 (by assumption) (by assumption) | exact Int.ofNat_lt.mpr (by assumption) | exact Nat.le_of_lt (by assumption) | exact Nat.le_trans (by assumption) (by decide) | omega) (by first | exact gi ed | exact gv ed | simpa using ed) ⟨_, rfl⟩ (Pe.attr (d := .ref DG) B4 I4 oa_185_row rfl rfl (Pe.loc b4.lo rfl)) (Pe.loc b4.lo rfl)) (Pe.loc b4.lo rfl)).mono ?_
        refine i2t fun t => ?_
        refine ⟨rfl, t, ?_⟩
        unfold pickOf
        rw [if_neg hm, List.getElem?_eq_getElem hlt]
      · refine i1 fun hc => ?_
        have hlt : ¬ taken < digits.length := by
          have : ¬ (taken : Int) < (vs.length : Int) := by first | exact of_decide_eq_true hc.symm | exact of_decide_eq_false hc.symm | simpa using hc.symm
          omega
        refine Pe.int.mono ?_
        refine i2t fun t => ?_
        refine ⟨rfl, t, ?_⟩
        unfold pickOf
        rw [if_neg hm, List.getElem?_eq_none (by with_reducible first | exact Int.natCast_nonneg _ | exact z63 (by assumption) (by assumption) | exact z65 (by assumption) (by assumption) | exact zn (by assumption) | exact le5 (by assumption) (by assumption) | exact Int.ofNat_lt.mpr (by assumption) | exact Nat.le_of_lt (by assumption) | exact Nat.le_trans (by assumption) (by decide) | omega)]
      · refine i2t fun t => ?_
        refine ⟨⟨t, rfl⟩, b4.but, t1, t2, t4, n, ?_⟩
        unfold takenOf; rw [if_neg hm]; exact e4
end Mine
end

-- Meth
section
open PySem PySem.W PySem.Calls PyProof.Rows PySem.Spec PySem.SeqAt
set_option tactic.hygienic false
namespace Mine
theorem Pt.to {PR : Program} {w : World} {A : Around} {env : Env} {h : Heap} {x : Expr} {c c' : Bool} (d : Pt PR w A x env h c) (e : c = c') : Pt PR w A x env h c' := e ▸ d
section
variable {PR : Program} {w : World} {A : Around} {env : Env} {h : Heap} {K : Frag}
theorem push_stays {h : Heap} {o : Obj} : h.StaysIn (h.push o) := fun b o e => Heap.get?_push_of_some _ e
theorem DoList {elts : List Expr} {pos : Pos} {P : List Value → Heap → Prop} {R : Value → Heap → Prop} (a : Args PR w A elts pos env h P) (k : ∀ vs h1, P vs h1 → vs.length ≤ sizeLine ∧ ∀ h2 l, h1.StaysIn h2 → h1.get? l = none → h1.objs.size ≤ l → h2.PlainList l vs.toArray → R (.ref l) h2) : Do PR w A (eval (.List elts pos) env) h R := fun s Q E e q =>
  wpAny_List (a s _ E e fun vs h1 tk p => ⟨(k vs h1 p).1, q _ _ _ ((k vs h1 p).2 _ _ push_stays (fresh_size (Nat.le_refl _)) (Nat.le_refl _) ⟨_, Heap.get?_push_size _ rfl⟩)⟩)
theorem DoTuple {elts : List Expr} {kk : Nat} {pos : Pos} {P : List Value → Heap → Prop} {R : Value → Heap → Prop} (a : Args PR w A elts pos env h P) (k : ∀ vs h1, P vs h1 → vs.length ≤ sizeLine ∧ ∀ h2 l n, h1.StaysIn h2 → h1.get? l = none → h1.objs.size ≤ l → h2.get? l = some (tupObj vs.toArray n) → R (.ref l) h2) : Do PR w A (eval (.Tuple elts kk pos) env) h R := fun s Q E e q =>
  wpAny_Tuple (a s _ E e fun vs h1 tk p => ⟨(k vs h1 p).1, q _ _ _ ((k vs h1 p).2 _ _ _ push_stays (fresh_size (Nat.le_refl _)) (Nat.le_refl _) (Heap.get?_push_size _ rfl))⟩)
-- o.attr = value, where the value may bring new objects along
theorem DsSetOwnG {o value : Expr} {attr : Str} {pos' pos : Pos} {rest : List Stmt} {g : Heap} {l : List (Str × D)} {x C dx : Addr} {es : List DictEntry} {n : Nat} {V : Value → Heap → Prop} {R : Flow → Heap → Prop} (B : Ok K h) (b : Bd g env.locals l h) (I : Inst h x C dx es n) (hne : dx ≠ env.locals)
    (hc : ownStore K C attr = true) (hg : (getL attr es).isSome = true) (hz : es.length ≤ 100) (dv : Do PR w A (eval value env) h fun v h1 => h.StaysIn h1 ∧ V v h1) (dO : ∀ h1, h.StaysIn h1 → Pe PR w A o env h1 (.ref x))
    (go : ∀ v t h1 h', V v h1 → h.StaysIn h1 → Bd (g.hide dx) env.locals l h' → (∀ c o, c ≠ env.locals → c ≠ dx → h1.get? c = some o → h'.get? c = some o) → h'.get? dx = some (dictOf (putL attr (PyData.keyHash w.params attr) (.str attr t) v es) (putN attr es n)) → Do PR w A (execs rest env) h' R)
    (hs : swapsWith value (some (.Attribute o attr pos')) pos.line env = pure false := by rfl) : Do PR w A (execs (.Assign [.Attribute o attr pos'] value pos :: rest) env) h R := by
  refine Ds.setAttr (hs := hs) (P4 := fun h4 => X2 (fun v h1 => C5 (V v h1) (h.StaysIn h1) (Lo h4 env.locals l) ((∀ b o, b ≠ env.locals → b ≠ dx → h1.get? b = some o → h4.get? b = some o)) (∃ t, h4.get? dx = some (dictOf (putL attr (PyData.keyHash w.params attr) (.str attr t) v es) (putN attr es n))))) dv (fun v h1 p => ?_) ?_
  · obtain ⟨k1, hv⟩ := p
    refine (dO h1 k1).mono fun ov h2 p2 => ?_
    obtain ⟨rfl, rfl⟩ := p2
    obtain ⟨m, hn, hq⟩ := (b.keeps k1).lo
    exact (DoSetAttr (B.keeps k1) (I.keeps k1) hn hne hc hg hz).mono fun _ h4 z => ⟨v, h2, hv, k1, ⟨m, z.1, hq⟩, z.2.1, z.2.2⟩
  · rintro h4 ⟨v, h1, hv, k1, hn4, k4, t, e4⟩
    exact go v t h1 h4 hv k1 ((b.keeps k1).turn hn4 k4) k4 e4
-- a op b op' c, all plain
theorem Pt.chain2 {x y z : Expr} {op op'} {pos : Pos} {a b c : D} {p q : Bool} (h1 : Cmp PR w A op a b h p) (h2 : Cmp PR w A op' b c h q) (dx : Pe PR w A x env h a) (dy : Pe PR w A y env h b) (dz : Pe PR w A z env h c) (hm : lastMarks [op, op'] [y, z] = false := by with_unfolding_all rfl) :
    Pt PR w A (.Compare x [op, op'] [y, z] pos) env h (p && q) := fun s Q E e k =>
  isTrue_chain (dx s _ E e fun va g1 t1 p1 => by
    obtain ⟨rfl, ha⟩ := p1
    refine test_link (dy _ _ E rfl fun vb g2 t2 p2 => ?_)
    obtain ⟨rfl, hb⟩ := p2
    refine h1 va vb ha hb _ _ E rfl fun c1 g3 t3 p3 => ?_
    obtain ⟨rfl, rfl⟩ := p3
    refine wpAny_truthy_bool ?_
    cases p with
    | false => exact k false _ _ ⟨rfl, rfl⟩
    | true =>
      simp only [if_true]
      refine test_last (dz _ _ E rfl fun vc g4 t4 p4 => ?_)
      obtain ⟨rfl, hc⟩ := p4
      refine h2 vb vc hb hc _ _ E rfl fun c2 g5 t5 p5 => ?_
      obtain ⟨rfl, rfl⟩ := p5
      exact wpAny_truthy_bool (k _ _ _ ⟨rfl, by simp⟩)) hm
theorem Pt.not {x : Expr} {pos : Pos} {c : Bool} (d : Pt PR w A x env h c) : Pt PR w A (.UnaryOp .Not x pos) env h (!c) := Dt.not (d.mono fun b h' p => ⟨p.1, by rw [p.2]⟩)
-- a test that fails: the body is passed by
theorem Ds.ifNo {test : Expr} {body rest : List Stmt} {pos : Pos} {R : Flow → Heap → Prop} (dt : Pt PR w A test env h false) (k : Do PR w A (execs rest env) h R) : Do PR w A (execs (.If test body [] pos :: rest) env) h R :=
  Ds.ifRet (T := fun b h1 => h1 = h ∧ b = false) dt (fun h1 p => by cases p.2) (fun h1 p => by rw [p.1]; exact k)
end
theorem But.of_hide {d : Addr} {g h : Heap} (k : But d (g.hide d) h) : But d g h := fun c o hc e => k c o hc ((Heap.hide_ne g hc).trans e)
theorem Bd.but2 {g h : Heap} {L d : Addr} {l : List (Str × D)} (b : Bd ((g.hide d).hide d) L l h) : But d g h := But.of_hide b.but
theorem Bd.but3 {g h : Heap} {L d : Addr} {l : List (Str × D)} (b : Bd (((g.hide d).hide d).hide d) L l h) : But d g h := But.of_hide b.but2
theorem hereVal_some {gs : List Addr} {i : Nat} {g : Addr} (e : gs[i]? = some g) : hereVal gs (some i) = .ref g := by simp [hereVal, e]
theorem hide_no {h : Heap} {Z : List Addr} {c : Addr} {o : Obj} (e : (hideAll h Z).get? c = some o) : c ∉ Z := fun q => by exact no_one (hideAll_none Z q) e
theorem but_hide {d : Addr} {h h' : Heap} {Z : List Addr} (k : But d h h') : But d (hideAll h Z) (hideAll h' Z) := fun c o hc e => hideAll_get Z (k c o hc (of_hideAll Z e)) (hide_no e)
theorem at_hide {h h' : Heap} {Z : List Addr} {d : Addr} {o o' : Obj} (e : h'.get? d = some o) (e0 : (hideAll h Z).get? d = some o') : (hideAll h' Z).get? d = some o := hideAll_get Z e (hide_no e0)
noncomputable def anDd : Option Int → D
  | .none => .none
  | .some k => .int k
theorem AnIs.d {v : Value} {o : Option Int} (x : AnIs v o) : (anDd o).Is v := by cases o <;> exact x
theorem AnIs.ofD {v : Value} {o : Option Int} (x : (anDd o).Is v) : AnIs v o := by cases o <;> exact x
section
variable {P : Params} {h : Heap} {S dS C dC DG AL : Addr} {gs ds : List Addr} {grs : List Row} {here : Option Nat} {digits : List Int} {taken : Int}
-- the goroutine at i, all that is wanted of it
theorem Sched.look (SC : Sched P h S dS C dC DG AL gs ds grs here digits taken) {i : Nat} {r : Row} (hr : grs[i]? = some r) : X2 (fun g d => C3 (gs[i]? = some g) (ds[i]? = some d) (GoAt P h g d i r)) := by
  have hi := (List.getElem?_eq_some_iff.mp hr).1
  have h1 : i < gs.length := by rw [SC.lg]; exact hi
  have h2 : i < ds.length := by rw [SC.ld]; exact hi
  exact ⟨gs[i], ds[i], List.getElem?_eq_getElem h1, List.getElem?_eq_getElem h2, SC.go i _ _ r (List.getElem?_eq_getElem h1) (List.getElem?_eq_getElem h2) hr⟩
end
section
variable {w : World} {A : Around} {h : Heap} {S dS C dC DG AL : Addr} {gs ds : List Addr} {grs : List Row} {here : Option Nat} {digits : List Int} {taken : Int}
theorem answer_spec {Z : List Addr} {i : Nat} {g d : Addr} {r : Row} (B : Ok (KP w.params) h) (ar : Ar A 1) (SC : Sched w.params (hideAll h Z) S dS C dC DG AL gs ds grs (some i) digits taken) (hd : ds[i]? = some d) (hr : grs[i]? = some r) (hi : 254 ≤ d) :
    Do PR w A (call (.ref 130) [.ref S] []) h fun v h' => AnIs v r.an ∧ But d h h' ∧ Sched w.params (hideAll h' Z) S dS C dC DG AL gs ds (grs.set i { r with an := none }) (some i) digits taken := by
  refine' DoDef (args := ⟨[.ref S], []⟩) (binds := [("self", .ref S)]) (l := [("self", .ref S)]) B ?ho ?hcd ar.room ?hb ?hloc (.cons rfl .nil) ?c2 ?c3 ?c4 ?c5 ?go
  case ho => (first | (with_reducible apply Mine.kp_look; (focus k_is); decide) | (with_reducible apply Mine.kp_ns; (focus k_is); decide) | kernel_rfl)
  case hcd => (first | (with_reducible apply Mine.kp_look; (focus k_is); decide) | (with_reducible apply Mine.kp_ns; (focus k_is); decide) | kernel_rfl)
  case hb => exact fun _ _ => BindsTo.of_eq rfl
  case hloc => exact locs rfl
  case c2 => rfl
  case c3 => rfl
  case c4 => rfl
  case c5 => decide
  case go =>
    intro L h1 b
    obtain ⟨g, d', hg, hd', G⟩ := SC.look hr
    rw [hd] at hd'; cases hd'
    obtain ⟨t1, t2, t3, t4, t5, ti, ts, wv, fr, av, n, I0, hw, ha⟩ := G.at_
    have I := I0.keeps hideAll_stays
    obtain ⟨s1, s2, s3, ns, IS0⟩ := SC.s
    rw [hereVal_some hg] at IS0
    have IS := IS0.keeps hideAll_stays
    have hne : d ≠ L := b.ne I.d
    refine Ds.let b (Pe.attr (B.keeps b.st) (I.keeps b.st) oa_71_answer rfl ha.d (Pe.attr (d := .ref g) (B.keeps b.st) (IS.keeps b.st) oa_157_here rfl rfl (Pe.loc b.lo rfl))) fun h2 b2 => ?_
    refine DsSetOwn (B.keeps b2.st) b2 (I.keeps b2.st) hne os_71_answer rfl (by show 5 ≤ 100; decide) Pe.none (Pe.attr (d := .ref g) (B.keeps b2.st) (IS.keeps b2.st) oa_157_here rfl rfl (Pe.loc b2.lo rfl)) ?_
    rintro v t h4 rfl b4 k4 e4
    refine Ds.ret ((Pe.loc b4.lo rfl).mono ?_)
    refine i1v fun v hv => ?_
    refine ⟨AnIs.ofD hv, b4.but, SC.turn hg hd hr (but_hide b4.but) ⟨t1, t2, t3, t4, t5, ti, ts, wv, fr, .none, n, ⟨but_hide b4.but _ _ (inst_ne I0 I0.d) I0.o, at_hide e4 I0.d⟩, (but_hide b4.but).wt I0.d (by first | exact List.mem_append_left _ (.head _) | exact List.mem_append_left _ (.tail _ (.head _)) | exact List.mem_append_left _ (.tail _ (.tail _ (.head _))) | exact List.mem_append_left _ (.tail _ (.tail _ (.tail _ (.head _)))) | exact .head _ | exact .tail _ (.head _) | simp) hw, rfl⟩⟩
theorem end_spec {Z : List Addr} {i : Nat} {g d : Addr} {r : Row} (B : Ok (KP w.params) h) (ar : Ar A 1) (SC : Sched w.params (hideAll h Z) S dS C dC DG AL gs ds grs (some i) digits taken) (hd : ds[i]? = some d) (hr : grs[i]? = some r) (hi : 254 ≤ d) :
    Do PR w A (call (.ref 137) [.ref S] []) h fun v h' => But d h h' ∧ Sched w.params (hideAll h' Z) S dS C dC DG AL gs ds (grs.set i { r with st := "ended" }) (some i) digits taken := by
  refine' DoDef (args := ⟨[.ref S], []⟩) (binds := [("self", .ref S)]) (l := [("self", .ref S)]) B ?ho ?hcd ar.room ?hb ?hloc (.cons rfl .nil) ?c2 ?c3 ?c4 ?c5 ?go
  case ho => (first | (with_reducible apply Mine.kp_look; (focus k_is); decide) | (with_reducible apply Mine.kp_ns; (focus k_is); decide) | kernel_rfl)
  case hcd => (first | (with_reducible apply Mine.kp_look; (focus k_is); decide) | (with_reducible apply Mine.kp_ns; (focus k_is); decide) | kernel_rfl)
  case hb => exact fun _ _ => BindsTo.of_eq rfl
  case hloc => exact locs rfl
  case c2 => rfl
  case c3 => rfl
  case c4 => rfl
  case c5 => decide
  case go =>
    intro L h1 b
    refine Do.post fun RR hRR => ?_
    obtain ⟨g, d', hg, hd', G⟩ := SC.look hr
    rw [hd] at hd'; cases hd'
    obtain ⟨t1, t2, t3, t4, t5, ti, ts, wv, fr, av, n, I0, hw, ha⟩ := G.at_
    have I := I0.keeps hideAll_stays
    obtain ⟨s1, s2, s3, ns, IS0⟩ := SC.s
    rw [hereVal_some hg] at IS0
    have IS := IS0.keeps hideAll_stays
    have hne : d ≠ L := b.ne I.d
    have hSd : dS ≠ d := dict_ne IS I.d (by intro q; simp [scEs, goEs] at q)
    obtain ⟨tE, eE⟩ := gl_ENDED (P := w.params)
    refine DsSetOwn (B.keeps b.st) b (I.keeps b.st) hne os_71_state rfl (by show 5 ≤ 100; decide) (Pe.glob (d := .str "ended") (B.keeps b.st) eE ⟨_, rfl⟩) (Pe.attr (d := .ref g) (B.keeps b.st) (IS.keeps b.st) oa_157_here rfl rfl (Pe.loc b.lo rfl)) ?_
    rintro v t h4 ⟨tv, rfl⟩ b4 k4 e4
    have B4 := B.but b4.but hi
    have I4 : Inst h4 g 71 d (goEs w.params t1 t2 t3 t4 t5 (.int i ti) (.str "ended" tv) wv fr av) n := ⟨b4.but _ _ (inst_ne I I.d) I.o, e4⟩
    have IS4 := b4.but.inst (inst_ne IS I.d) hSd IS
    refine DsSetOwnG (V := fun v h' => True) B4 b4 I4 hne os_71_frames rfl (by show 5 ≤ 100; decide) (DoList Args.plain0 fun vs h5 p => ?_) (fun h5 k5 => Pe.attr (d := .ref g) (B4.keeps k5) (IS4.keeps k5) oa_157_here rfl rfl (Pe.loc (b4.lo.keeps k5) rfl)) ?_
    · revert h5 p; refine i1 fun q => ?_
      cases q
      exact ⟨Nat.zero_le _, fun h2 l k _ _ _ => ⟨k, trivial⟩⟩
    · rintro v t h5 h6 - k5 b6 k6 e6
      refine Ds.nil (hRR _ _ ⟨b6.but2, SC.turn hg hd hr (but_hide b6.but2) ⟨t1, t2, t3, t4, t5, ti, tv, wv, v, av, n, ⟨but_hide b6.but2 _ _ (inst_ne I0 I0.d) I0.o, at_hide e6 I0.d⟩, (but_hide b6.but2).wt I0.d (by first | exact List.mem_append_left _ (.head _) | exact List.mem_append_left _ (.tail _ (.head _)) | exact List.mem_append_left _ (.tail _ (.tail _ (.head _))) | exact List.mem_append_left _ (.tail _ (.tail _ (.tail _ (.head _)))) | exact .head _ | exact .tail _ (.head _) | simp) hw, ha⟩⟩)
theorem block_spec {Z : List Addr} {i : Nat} {g d : Addr} {r : Row} {v : Value} {k : Int} {h : Heap} (B : Ok (KP w.params) h) (ar : Ar A 1) (SC : Sched w.params (hideAll h Z) S dS C dC DG AL gs ds grs (some i) digits taken) (hd : ds[i]? = some d) (hr : grs[i]? = some r) (hi : 254 ≤ d) (hst : r.st = "ready") (hv : WtAt (hideAll h Z) v (some k)) :
    Do PR w A (call (.ref 115) [.ref S, v] []) h fun v h' => But d h h' ∧ Sched w.params (hideAll h' Z) S dS C dC DG AL gs ds (grs.set i { r with st := "blocked", wt := some k }) (some i) digits taken := by
  obtain ⟨va, u, tk, nv, rfl, hva⟩ := hv
  refine' DoDef (args := ⟨[.ref S, .ref va], []⟩) (binds := [("self", .ref S), ("waits_for", .ref va)]) (l := [("waits_for", .ref va), ("self", .ref S)]) B ?ho ?hcd ar.room ?hb ?hloc (.cons rfl (.cons rfl .nil)) ?c2 ?c3 ?c4 ?c5 ?go
  case ho => (first | (with_reducible apply Mine.kp_look; (focus k_is); decide) | (with_reducible apply Mine.kp_ns; (focus k_is); decide) | kernel_rfl)
  case hcd => (first | (with_reducible apply Mine.kp_look; (focus k_is); decide) | (with_reducible apply Mine.kp_ns; (focus k_is); decide) | kernel_rfl)
  case hb => exact fun _ _ => BindsTo.of_eq rfl
  case hloc => exact locs rfl
  case c2 => rfl
  case c3 => rfl
  case c4 => rfl
  case c5 => decide
  case go =>
    intro L h1 b
    refine Do.post fun RR hRR => ?_
    obtain ⟨g, d', hg, hd', G⟩ := SC.look hr
    rw [hd] at hd'; cases hd'
    obtain ⟨t1, t2, t3, t4, t5, ti, ts, wv, fr, av, n, I0, hw, ha⟩ := G.at_
    have I := I0.keeps hideAll_stays
    obtain ⟨s1, s2, s3, ns, IS0⟩ := SC.s
    rw [hereVal_some hg] at IS0
    have IS := IS0.keeps hideAll_stays
    have hne : d ≠ L := b.ne I.d
    have hSd : dS ≠ d := dict_ne IS I.d (by intro q; simp [scEs, goEs] at q)
    obtain ⟨tR, eR⟩ := gl_READY (P := w.params)
    obtain ⟨tB, eB⟩ := gl_BLOCKED (P := w.params)
    have B1 := B.keeps b.st
    refine Ds.ifNo (Pt.to (Pt.cmp Cmp.neS (Pe.attr (d := .str r.st) B1 (I.keeps b.st) oa_71_state rfl ⟨_, rfl⟩ (Pe.attr (d := .ref g) B1 (IS.keeps b.st) oa_157_here rfl rfl (Pe.loc b.lo rfl))) (Pe.glob (d := .str "ready") B1 eR ⟨_, rfl⟩)) (by simp [hst])) ?_
    refine DsSetOwn B1 b (I.keeps b.st) hne os_71_state rfl (by show 5 ≤ 100; decide) (Pe.glob (d := .str "blocked") B1 eB ⟨_, rfl⟩) (Pe.attr (d := .ref g) B1 (IS.keeps b.st) oa_157_here rfl rfl (Pe.loc b.lo rfl)) ?_
    rintro v t h4 ⟨tv, rfl⟩ b4 k4 e4
    have B4 := B.but b4.but hi
    have I4 : Inst h4 g 71 d (goEs w.params t1 t2 t3 t4 t5 (.int i ti) (.str "blocked" tv) wv fr av) n := ⟨b4.but _ _ (inst_ne I I.d) I.o, e4⟩
    have IS4 := b4.but.inst (inst_ne IS I.d) hSd IS
    refine DsSetOwn B4 b4 I4 hne os_71_waits_for rfl (by show 5 ≤ 100; decide) (Pe.loc b4.lo rfl) (Pe.attr (d := .ref g) B4 IS4 oa_157_here rfl rfl (Pe.loc b4.lo rfl)) ?_
    rintro v t h6 rfl b6 k6 e6
    refine Ds.nil (hRR _ _ ⟨b6.but2, SC.turn hg hd hr (but_hide b6.but2) ⟨t1, t2, t3, t4, t5, ti, tv, .ref va, fr, av, n, ⟨but_hide b6.but2 _ _ (inst_ne I0 I0.d) I0.o, at_hide e6 I0.d⟩, (but_hide b6.but2).wt I0.d (by first | exact List.mem_append_left _ (.head _) | exact List.mem_append_left _ (.tail _ (.head _)) | exact List.mem_append_left _ (.tail _ (.tail _ (.head _))) | exact List.mem_append_left _ (.tail _ (.tail _ (.tail _ (.head _)))) | exact .head _ | exact .tail _ (.head _) | simp) ⟨va, u, tk, nv, rfl, hva⟩, ha⟩⟩)
end
end Mine
end

-- Meth2
section
open PySem PySem.W PySem.Calls PyProof.Rows PySem.Spec PySem.SeqAt
set_option tactic.hygienic false
namespace Mine
section
variable {PR : Program} {w : World} {A : Around} {env : Env} {h : Heap} {K : Frag}
-- a method that takes plain arguments, on a plain object
theorem DoMethodP {o x : Expr} {xs : List Expr} {name : Str} {apos pos : Pos} {a C dx f : Addr} {es : List DictEntry} {n : Nat} {pl : Sem Bool} {P : List Value → Heap → Prop} {R : Value → Heap → Prop} (B : Ok K h) (I : Inst h a C dx es n) (hm : ownMethod K C name f = true) (hl : getL name es = some none) (hk : keepIn K (.ref f) = true)
    (dO : Pe PR w A o env h (.ref a)) (as : Args PR w A (x :: xs) pos env h P) (k : ∀ vs h1, P vs h1 → Ok K h1 ∧ Do PR w A (call (.ref f) (.ref a :: vs) []) h1 R) (he : MethodTree o name apos pos (x :: xs) env pl := by with_unfolding_all rfl) (hs : starEach (x :: xs) env = (false, eval x env) :: starEach xs env := by rfl) (hp : (backTo pos (starEach xs env)).any (·.1) = false := by rfl) :
    Do PR w A (eval (.Call (.Attribute o name apos) (x :: xs) [] pos) env) h R :=
  DoMethod (he := he) dO hm fun u h1 p => by
    revert u h1 p; refine i2 ?_
    exact ⟨a, C, dx, es, n, rfl, rfl, B, I, hl, DoCallWith (first := [.ref a]) (Callable.ofK hk) as k hs hp⟩
theorem DoMethod0 {o : Expr} {name : Str} {apos pos : Pos} {a C dx f : Addr} {es : List DictEntry} {n : Nat} {pl : Sem Bool} {R : Value → Heap → Prop} (B : Ok K h) (I : Inst h a C dx es n) (hm : ownMethod K C name f = true) (hl : getL name es = some none) (hk : keepIn K (.ref f) = true)
    (dO : Pe PR w A o env h (.ref a)) (k : Do PR w A (call (.ref f) [.ref a] []) h R) (he : MethodTree o name apos pos [] env pl := by with_unfolding_all rfl) :
    Do PR w A (eval (.Call (.Attribute o name apos) [] [] pos) env) h R :=
  DoMethod (he := he) dO hm fun u h1 p => by
    revert u h1 p; refine i2 ?_
    exact ⟨a, C, dx, es, n, rfl, rfl, B, I, hl, Do.callWith0 (first := [.ref a]) B (Callable.ofK hk) k⟩
-- two lists of differing lengths, or both empty
theorem Do.eqEmpty {l e : Addr} {ys : List Value} (hu : A.units < cLine) (hl : h.IsList l ys.toArray) (he : h.IsList e #[]) : Do PR w A (compareOp .Eq (.ref l) (.ref e)) h fun v h' => h' = h ∧ v = .bool (decide (ys = [])) := fun s Q E es q => by
  subst es
  cases ys with
  | nil => exact eq_listAt (e := fun _ => true) hl he rfl hu (fun j h1 => absurd h1 (by first | exact List.mem_append_left _ (.head _) | exact List.mem_append_left _ (.tail _ (.head _)) | exact List.mem_append_left _ (.tail _ (.tail _ (.head _))) | exact List.mem_append_left _ (.tail _ (.tail _ (.tail _ (.head _)))) | exact .head _ | exact .tail _ (.head _) | simp)) (Do.now rfl q ⟨rfl, rfl⟩)
  | cons y r => exact eq_list_lengthsAt hl he (by first | exact List.mem_append_left _ (.head _) | exact List.mem_append_left _ (.tail _ (.head _)) | exact List.mem_append_left _ (.tail _ (.tail _ (.head _))) | exact List.mem_append_left _ (.tail _ (.tail _ (.tail _ (.head _)))) | exact .head _ | exact .tail _ (.head _) | simp) hu (Do.now rfl q ⟨rfl, rfl⟩)
theorem Do.neEmpty {l e : Addr} {ys : List Value} (hu : A.units < cLine) (hl : h.IsList l ys.toArray) (he : h.IsList e #[]) : Do PR w A (compareOp .NotEq (.ref l) (.ref e)) h fun v h' => h' = h ∧ v = .bool (!decide (ys = [])) := fun s Q E es q => by
  subst es
  cases ys with
  | nil => exact RcNeAt.lists (e := fun _ => true) hl he rfl hu (fun j h1 => absurd h1 (by first | exact List.mem_append_left _ (.head _) | exact List.mem_append_left _ (.tail _ (.head _)) | exact List.mem_append_left _ (.tail _ (.tail _ (.head _))) | exact List.mem_append_left _ (.tail _ (.tail _ (.tail _ (.head _)))) | exact .head _ | exact .tail _ (.head _) | simp)) PR w E Q (Do.now rfl q ⟨rfl, rfl⟩)
  | cons y r => exact RcNeAt.lists_lengths hl he (by first | exact List.mem_append_left _ (.head _) | exact List.mem_append_left _ (.tail _ (.head _)) | exact List.mem_append_left _ (.tail _ (.tail _ (.head _))) | exact List.mem_append_left _ (.tail _ (.tail _ (.tail _ (.head _)))) | exact .head _ | exact .tail _ (.head _) | simp) hu PR w E Q (Do.now rfl q ⟨rfl, rfl⟩)
-- x and y, both truth values
theorem DoAnd {x y : Expr} {pos : Pos} {P R : Bool → Heap → Prop} (dx : Do PR w A (eval x env) h fun v h1 => ∃ b, v = .bool b ∧ P b h1) (dy : ∀ h1, P true h1 → Do PR w A (eval y env) h1 fun v h2 => ∃ b, v = .bool b ∧ R b h2) (no : ∀ h1, P false h1 → R false h1) :
    Do PR w A (eval (.BoolOp .And [x, y] pos) env) h fun v h2 => ∃ b, v = .bool b ∧ R b h2 := fun s Q E e q => by
  refine BoolOp_and (dx s _ E e fun v h1 tk p => ?_)
  obtain ⟨b, rfl, p⟩ := p
  refine wpAny_truthy_bool ?_
  cases b with
  | true =>
    simp only [if_true]
    exact BoolOp_one (dy h1 p _ Q E rfl fun v h' tk r => q v h' tk r)
  | false => exact q _ h1 tk ⟨false, rfl, no h1 p⟩
end
theorem ke {P : Params} : keepIn (KP P) (.ref 96) = true ∧ keepIn (KP P) (.ref 103) = true ∧ keepIn (KP P) (.ref 108) = true ∧ keepIn (KP P) (.ref 115) = true ∧ keepIn (KP P) (.ref 123) = true ∧ keepIn (KP P) (.ref 130) = true ∧
    keepIn (KP P) (.ref 137) = true ∧ keepIn (KP P) (.ref 144) = true ∧ keepIn (KP P) (.ref 149) = true ∧ keepIn (KP P) (.ref 154) = true ∧ keepIn (KP P) (.ref 182) = true :=
  ⟨by (first | (with_reducible apply Mine.kp_look; (focus k_is); decide) | (with_reducible apply Mine.kp_ns; (focus k_is); decide) | kernel_rfl), by (first | (with_reducible apply Mine.kp_look; (focus k_is); decide) | (with_reducible apply Mine.kp_ns; (focus k_is); decide) | kernel_rfl), by (first | (with_reducible apply Mine.kp_look; (focus k_is); decide) | (with_reducible apply Mine.kp_ns; (focus k_is); decide) | kernel_rfl), by (first | (with_reducible apply Mine.kp_look; (focus k_is); decide) | (with_reducible apply Mine.kp_ns; (focus k_is); decide) | kernel_rfl), by (first | (with_reducible apply Mine.kp_look; (focus k_is); decide) | (with_reducible apply Mine.kp_ns; (focus k_is); decide) | kernel_rfl), by (first | (with_reducible apply Mine.kp_look; (focus k_is); decide) | (with_reducible apply Mine.kp_ns; (focus k_is); decide) | kernel_rfl), by (first | (with_reducible apply Mine.kp_look; (focus k_is); decide) | (with_reducible apply Mine.kp_ns; (focus k_is); decide) | kernel_rfl), by (first | (with_reducible apply Mine.kp_look; (focus k_is); decide) | (with_reducible apply Mine.kp_ns; (focus k_is); decide) | kernel_rfl), by (first | (with_reducible apply Mine.kp_look; (focus k_is); decide) | (with_reducible apply Mine.kp_ns; (focus k_is); decide) | kernel_rfl), by (first | (with_reducible apply Mine.kp_look; (focus k_is); decide) | (with_reducible apply Mine.kp_ns; (focus k_is); decide) | kernel_rfl), by (first | (with_reducible apply Mine.kp_look; (focus k_is); decide) | (with_reducible apply Mine.kp_ns; (focus k_is); decide) | kernel_rfl)⟩
theorem ke_f {P : Params} : keepIn (KP P) (.ref 196) = true ∧ keepIn (KP P) (.ref 203) = true ∧ keepIn (KP P) (.ref 215) = true ∧ keepIn (KP P) (.ref 222) = true ∧ keepIn (KP P) (.ref 227) = true ∧ keepIn (KP P) (.ref 234) = true ∧
    keepIn (KP P) (.ref 239) = true ∧ keepIn (KP P) (.ref 246) = true ∧ keepIn (KP P) (.ref 71) = true ∧ keepIn (KP P) (.ref 157) = true ∧ keepIn (KP P) (.ref 185) = true ∧ keepIn (KP P) (.ref 52) = true :=
  ⟨by (first | (with_reducible apply Mine.kp_look; (focus k_is); decide) | (with_reducible apply Mine.kp_ns; (focus k_is); decide) | kernel_rfl), by (first | (with_reducible apply Mine.kp_look; (focus k_is); decide) | (with_reducible apply Mine.kp_ns; (focus k_is); decide) | kernel_rfl), by (first | (with_reducible apply Mine.kp_look; (focus k_is); decide) | (with_reducible apply Mine.kp_ns; (focus k_is); decide) | kernel_rfl), by (first | (with_reducible apply Mine.kp_look; (focus k_is); decide) | (with_reducible apply Mine.kp_ns; (focus k_is); decide) | kernel_rfl), by (first | (with_reducible apply Mine.kp_look; (focus k_is); decide) | (with_reducible apply Mine.kp_ns; (focus k_is); decide) | kernel_rfl), by (first | (with_reducible apply Mine.kp_look; (focus k_is); decide) | (with_reducible apply Mine.kp_ns; (focus k_is); decide) | kernel_rfl), by (first | (with_reducible apply Mine.kp_look; (focus k_is); decide) | (with_reducible apply Mine.kp_ns; (focus k_is); decide) | kernel_rfl), by (first | (with_reducible apply Mine.kp_look; (focus k_is); decide) | (with_reducible apply Mine.kp_ns; (focus k_is); decide) | kernel_rfl), by (first | (with_reducible apply Mine.kp_look; (focus k_is); decide) | (with_reducible apply Mine.kp_ns; (focus k_is); decide) | kernel_rfl), by (first | (with_reducible apply Mine.kp_look; (focus k_is); decide) | (with_reducible apply Mine.kp_ns; (focus k_is); decide) | kernel_rfl), by (first | (with_reducible apply Mine.kp_look; (focus k_is); decide) | (with_reducible apply Mine.kp_ns; (focus k_is); decide) | kernel_rfl), by (first | (with_reducible apply Mine.kp_look; (focus k_is); decide) | (with_reducible apply Mine.kp_ns; (focus k_is); decide) | kernel_rfl)⟩
section
variable {w : World} {A : Around} {h : Heap} {S dS C dC DG AL : Addr} {gs ds : List Addr} {grs : List Row} {here : Option Nat} {digits : List Int} {taken : Int}
theorem of_spec {i : Nat} {g : Addr} {t : Tok} (B : Ok (KP w.params) h) (ar : Ar A 1) (SC : Sched w.params h S dS C dC DG AL gs ds grs here digits taken) (hg : gs[i]? = some g) (sz : gs.length ≤ 1000) :
    Do PR w A (call (.ref 103) [.ref S, .int i t] []) h fun v h' => v = .ref g ∧ h.StaysIn h' := by
  refine' DoDef (args := ⟨[.ref S, .int i t], []⟩) (binds := [("self", .ref S), ("number", .int i t)]) (l := [("number", .int i), ("self", .ref S)]) B ?ho ?hcd ar.room ?hb ?hloc (.cons ⟨_, rfl⟩ (.cons rfl .nil)) ?c2 ?c3 ?c4 ?c5 ?go
  case ho => (first | (with_reducible apply Mine.kp_look; (focus k_is); decide) | (with_reducible apply Mine.kp_ns; (focus k_is); decide) | kernel_rfl)
  case hcd => (first | (with_reducible apply Mine.kp_look; (focus k_is); decide) | (with_reducible apply Mine.kp_ns; (focus k_is); decide) | kernel_rfl)
  case hb => exact fun _ _ => BindsTo.of_eq rfl
  case hloc => exact locs rfl
  case c2 => rfl
  case c3 => rfl
  case c4 => rfl
  case c5 => decide
  case go =>
    intro L h1 b
    have B1 := B.keeps b.st
    have S1 := SC.keeps b.st
    obtain ⟨s1, s2, s3, ns, IS⟩ := S1.s
    have hi : i < gs.length := (List.getElem?_eq_some_iff.mp hg).1
    refine Ds.ifNo ?_ ?_
    · refine Pt.to (Pt.not (Pt.chain2 Cmp.le Cmp.lt Pe.int (Pe.loc b.lo rfl) (Pe.len B1 gl_len S1.al (by first | with_reducible exact zlen (by assumption) | with_reducible exact zlenE (by assumption) (by assumption) | with_reducible exact zvs (by assumption) | with_reducible exact zvsE (by assumption) (by assumption) | (simp; omega)) (Pe.attr (d := .ref AL) B1 IS oa_157_all rfl rfl (Pe.loc b.lo rfl))))) ?_
      have : (i : Int) < (gs.length : Int) := by omega
      simp [this]
    · refine Ds.ret ((Pe.item (d := .ref g) S1.al (i := i) (by with_reducible first | exact Int.natCast_nonneg _ | exact z63 (by assumption) (by assumption) | exact z65 (by assumption) (by assumption) | exact zn (by assumption) | exact le5 (by assumption) (by assumption) | exact Int.ofNat_lt.mpr (by assumption) | exact Nat.le_of_lt (by assumption) | exact Nat.le_trans (by assumption) (by decide) | exact Int.lt_trans (by assumption) (zn (by assumption)) | omega) (by with_reducible first | exact Int.natCast_nonneg _ | exact z63 (by assumption) (by assumption) | exact z65 (by assumption) (by assumption) | exact zn (by assumption) | exact le5 (by assumption) (by assumption) | exact Int.ofNat_lt.mpr (by assumption) | exact Nat.le_of_lt (by assumption) | exact Nat.le_trans (by assumption) (by decide) | exact Int.lt_trans (by assumption) (zn (by assumption)) | omega) (by first | exact gi hg | exact gv hg | simpa using hg) rfl (Pe.attr (d := .ref AL) B1 IS oa_157_all rfl rfl (Pe.loc b.lo rfl)) (Pe.loc b.lo rfl)).mono ?_)
      refine i2 ?_
      exact ⟨rfl, b.st⟩
theorem wake_spec {Z : List Addr} {i : Nat} {d : Addr} {r : Row} {k : Int} {t tk : Tok} (B : Ok (KP w.params) h) (ar : Ar A 2) (SC : Sched w.params (hideAll h Z) S dS C dC DG AL gs ds grs here digits taken) (hd : ds[i]? = some d) (hr : grs[i]? = some r) (hi : 254 ≤ d) (hst : r.st = "blocked") (sz : gs.length ≤ 1000) :
    Do PR w A (call (.ref 123) [.ref S, .int i t, .int k tk] []) h fun v h' => But d h h' ∧ Sched w.params (hideAll h' Z) S dS C dC DG AL gs ds (grs.set i { st := "ready", wt := none, an := some k }) here digits taken := by
  refine' DoDef (args := ⟨[.ref S, .int i t, .int k tk], []⟩) (binds := [("self", .ref S), ("number", .int i t), ("answer", .int k tk)]) (l := [("answer", .int k), ("number", .int i), ("self", .ref S)]) B ?ho ?hcd ar.room ?hb ?hloc (.cons ⟨_, rfl⟩ (.cons ⟨_, rfl⟩ (.cons rfl .nil))) ?c2 ?c3 ?c4 ?c5 ?go
  case ho => (first | (with_reducible apply Mine.kp_look; (focus k_is); decide) | (with_reducible apply Mine.kp_ns; (focus k_is); decide) | kernel_rfl)
  case hcd => (first | (with_reducible apply Mine.kp_look; (focus k_is); decide) | (with_reducible apply Mine.kp_ns; (focus k_is); decide) | kernel_rfl)
  case hb => exact fun s e => binds_K (X := e ▸ B.k) rfl (by (first | (with_reducible apply Mine.kp_look; (focus k_is); decide) | (with_reducible apply Mine.kp_ns; (focus k_is); decide) | kernel_rfl)) rfl rfl rfl
  case hloc => exact locs rfl
  case c2 => rfl
  case c3 => rfl
  case c4 => rfl
  case c5 => decide
  case go =>
    intro L h1 b
    refine Do.post fun RR hRR => ?_
    obtain ⟨g, d', hg, hd', G⟩ := SC.look hr
    rw [hd] at hd'; cases hd'
    obtain ⟨t1, t2, t3, t4, t5, ti, ts, wv, fr, av, n, I0, hw, ha⟩ := G.at_
    have I := I0.keeps hideAll_stays
    obtain ⟨s1, s2, s3, ns, IS0⟩ := SC.s
    have IS := IS0.keeps hideAll_stays
    have hne : d ≠ L := b.ne I.d
    obtain ⟨tR, eR⟩ := gl_READY (P := w.params)
    obtain ⟨tB, eB⟩ := gl_BLOCKED (P := w.params)
    have B1 := B.keeps b.st
    refine Ds.assign (DoMethodP B1 (IS.keeps b.st) om_of rfl ke.2.1 (Pe.loc b.lo rfl) (Args.plain1 (Pe.loc b.lo rfl) Args.plain0) (fun vs h2 p => ?_)) (fun v h2 p => ?_) (P := fun v h2 => v = .ref g ∧ h1.StaysIn h2)
    · revert h2 p; refine i1 fun q => ?_
      obtain ⟨v, rfl, u, rfl⟩ := q.one
      exact ⟨B1, of_spec B1 ar.deeper ((SC.keeps hideAll_stays).keeps b.st) hg sz⟩
    · obtain ⟨rfl, k2⟩ := p
      refine ⟨h, _, .ref g, b.keeps k2, rfl, fun h3 b3 _ => ?_⟩
      have B3 := B.keeps b3.st
      refine Ds.ifNo (Pt.to (Pt.cmp Cmp.neS (Pe.attr (d := .str r.st) B3 (I.keeps b3.st) oa_71_state rfl ⟨_, rfl⟩ (Pe.loc b3.lo rfl)) (Pe.glob (d := .str "blocked") B3 eB ⟨_, rfl⟩)) (by simp [hst])) ?_
      refine DsSetOwn B3 b3 (I.keeps b3.st) hne os_71_state rfl (by show 5 ≤ 100; decide) (Pe.glob (d := .str "ready") B3 eR ⟨_, rfl⟩) (Pe.loc b3.lo rfl) ?_
      rintro v tv0 h4 ⟨tv, rfl⟩ b4 k4 e4
      have B4 := B.but b4.but hi
      have I4 : Inst h4 g 71 d (goEs w.params t1 t2 t3 t4 t5 (.int i ti) (.str "ready" tv) wv fr av) n := ⟨b4.but _ _ (inst_ne I I.d) I.o, e4⟩
      refine DsSetOwn B4 b4 I4 hne os_71_waits_for rfl (by show 5 ≤ 100; decide) Pe.none (Pe.loc b4.lo rfl) ?_
      rintro v t6 h6 rfl b6 k6 e6
      have B6 := B.but b6.but2 hi
      have I6 : Inst h6 g 71 d (goEs w.params t1 t2 t3 t4 t5 (.int i ti) (.str "ready" tv) .none fr av) n := ⟨b6.but2 _ _ (inst_ne I I.d) I.o, e6⟩
      refine DsSetOwn B6 b6 I6 hne os_71_answer rfl (by show 5 ≤ 100; decide) (Pe.loc b6.lo rfl) (Pe.loc b6.lo rfl) ?_
      rintro v t8 h8 ⟨ta, rfl⟩ b8 k8 e8
      refine Ds.nil (hRR _ _ ⟨b8.but3, SC.turn hg hd hr (but_hide b8.but3) ⟨t1, t2, t3, t4, t5, ti, tv, .none, fr, .int k ta, n, ⟨but_hide b8.but3 _ _ (inst_ne I0 I0.d) I0.o, at_hide e8 I0.d⟩, rfl, ta, rfl⟩⟩)
end
end Mine
end

-- Make
section
open PySem PySem.W PySem.Calls PyProof.Rows PySem.Spec PySem.SeqAt
set_option tactic.hygienic false
namespace Mine
-- a def's call, seen as code
noncomputable def DoCode (PR : Program) (w : World) (A : Around) (f : Addr) (args : PySem.Args) (h : Heap) (P : Value → Heap → Prop) : Prop :=
  ∀ (s : Shared) (R : Result → Shared → Prop), s.heap = h → (∀ v h' tk, P v h' → R (.ok (.ret v)) { s with heap := h', toks := tk }) → codeAny (model PR w) A (.call (.ref f) args) R s
section
variable {PR : Program} {w : World} {A : Around} {env : Env} {h : Heap} {K : Frag}
theorem DoDefC {name qual : Str} {params : Arguments} {body : List Stmt} {scope : Scope} {dV kV doc pm cdv ct oc : Value} {an od : Option Addr} {osl : Array (Option Value)} {f : Addr} {args : PySem.Args} {binds : List (Str × Value)} {l : List (Str × D)} {P : Value → Heap → Prop}
    (B : Ok K h) (ho : K.lookup f = some ⟨oc, od, .func (fnOf name qual params body scope dV kV doc pm an cdv ct), osl⟩) (hcd : codeIn K cdv qual = true) (hroom : A.depth < recursionLimit)
    (hbind : ∀ s : Shared, s.heap = h → BindsTo s (fnOf name qual params body scope dV kV doc pm an cdv ct) args binds) (hloc : ∀ y ∈ binds, scope.names.lookup y.1 = some .local) (hz : Zip l binds.reverse)
    (hco : scope.isCoroutine = false) (hgen : scope.isGenerator = false) (hk : scope.kind = .function) (hcell : ∀ x ∈ scope.names, x.2 ≠ .cell)
    (go : ∀ L h1, Bd h L l h1 → Do PR w (A.deeper (envOf qual scope L f cdv)) (execs body (envOf qual scope L f cdv)) h1 fun fl h' => P (retOf fl) h') : DoCode PR w A f args h P := fun s R e q => by
  subst e
  obtain ⟨p, loose, mg, mb, T⟩ := B.top
  refine codeAny_call_def (fd := fnOf name qual params body scope dV kV doc pm an cdv ct) (body := body) (binds := binds) hroom (B.k _ _ ho) rfl T.nolimit (codeRec_of B.k hcd) rfl (hbind s rfl) hcell hloc (fun h₁ hns hk₁ => ?_) hco hgen hk
  have own : s.heap.get? s.heap.objs.size = none := fresh_size (Nat.le_refl _)
  exact go s.heap.objs.size h₁ ⟨⟨_, hns, hz.look⟩, hk₁, own⟩ _ _ _ rfl fun fl h' tk r => by
    have := q (retOf fl) h' tk r
    cases fl <;> exact this
-- an object of a class is made
theorem DoMake {C fI : Addr} {vals : List Value} {R : Value → Heap → Prop} (B : Ok K h) (hm : makesIn K C = true) (hi : findIn K (.ref C) "__init__" = some (some (.ref fI))) (hf : typeIn K (.ref fI) = some (.type "function"))
    (k : ∀ h1 x dx n, h.StaysIn h1 → Inst h1 x C dx [] n → h.objs.size ≤ dx → h.get? x = none → h.get? dx = none → DoCode PR w (A.under (.builtin "type.__call__" ⟨.ref C :: vals, []⟩)) fI ⟨.ref x :: vals, []⟩ h1 fun v h' => v = .none ∧ R (.ref x) h') :
    Do PR w A (call (.ref C) vals []) h R := fun s Q E e q => by
  subst e
  obtain ⟨hh, g, d, t, os⟩ := s
  refine wpAny_call (make_core (makes_of B.k hm) (looks_findIn B.k hi) (fun self => bind_fn B.k self hf) (.inl rfl) ?_)
  have k1 : hh.StaysIn ((hh.push emptyDict).push (instObj C hh.objs.size)) := fun b o e => Heap.get?_push_of_some _ (Heap.get?_push_of_some _ e)
  have e1 : ((hh.push emptyDict).push (instObj C hh.objs.size)).get? (hh.objs.size + 1) = some (instObj C hh.objs.size) := by heap_get
  have e2 : ((hh.push emptyDict).push (instObj C hh.objs.size)).get? hh.objs.size = some emptyDict := by heap_get
  refine k _ (hh.objs.size + 1) hh.objs.size 0 k1 ⟨e1, e2⟩ (Nat.le_refl _) (fresh_size (Nat.le_succ _)) (fresh_size (Nat.le_refl _)) _ _ rfl fun v h' tk p => ?_
  obtain ⟨rfl, r⟩ := p
  exact ⟨rfl, q _ h' tk r⟩
end
theorem Ar.under {A : Around} {n : Nat} {C : Addr} {vals : List Value} {kw : List (Str × Value)} (x : Ar A (n + 1)) : Ar (A.under (.builtin "type.__call__" ⟨.ref C :: vals, kw⟩)) n :=
  ⟨x.hh, ar1 x.dp, Nat.lt_of_le_of_lt (Nat.add_le_add_right (Nat.add_le_add_right (Nat.add_le_add_left (show (Code.builtin "type.__call__" ⟨.ref C :: vals, kw⟩).cUnits ≤ 3 from by show 1 ≤ 3; decide) _) _) 64) (ar2 x.un)⟩
theorem mk_Goroutine {P : Params} : makesIn (KP P) 71 = true ∧ findIn (KP P) (.ref 71) "__init__" = some (some (.ref 68)) ∧ typeIn (KP P) (.ref 68) = some (.type "function") := ⟨by (first | (with_reducible apply Mine.kp_look; (focus k_is); decide) | (with_reducible apply Mine.kp_ns; (focus k_is); decide) | kernel_rfl), by (first | (with_reducible apply Mine.kp_look; (focus k_is); decide) | (with_reducible apply Mine.kp_ns; (focus k_is); decide) | kernel_rfl), by (first | (with_reducible apply Mine.kp_look; (focus k_is); decide) | (with_reducible apply Mine.kp_ns; (focus k_is); decide) | kernel_rfl)⟩
theorem mk_Scheduler {P : Params} : makesIn (KP P) 157 = true ∧ findIn (KP P) (.ref 157) "__init__" = some (some (.ref 89)) ∧ typeIn (KP P) (.ref 89) = some (.type "function") := ⟨by (first | (with_reducible apply Mine.kp_look; (focus k_is); decide) | (with_reducible apply Mine.kp_ns; (focus k_is); decide) | kernel_rfl), by (first | (with_reducible apply Mine.kp_look; (focus k_is); decide) | (with_reducible apply Mine.kp_ns; (focus k_is); decide) | kernel_rfl), by (first | (with_reducible apply Mine.kp_look; (focus k_is); decide) | (with_reducible apply Mine.kp_ns; (focus k_is); decide) | kernel_rfl)⟩
theorem mk_Choices {P : Params} : makesIn (KP P) 185 = true ∧ findIn (KP P) (.ref 185) "__init__" = some (some (.ref 175)) ∧ typeIn (KP P) (.ref 175) = some (.type "function") := ⟨by (first | (with_reducible apply Mine.kp_look; (focus k_is); decide) | (with_reducible apply Mine.kp_ns; (focus k_is); decide) | kernel_rfl), by (first | (with_reducible apply Mine.kp_look; (focus k_is); decide) | (with_reducible apply Mine.kp_ns; (focus k_is); decide) | kernel_rfl), by (first | (with_reducible apply Mine.kp_look; (focus k_is); decide) | (with_reducible apply Mine.kp_ns; (focus k_is); decide) | kernel_rfl)⟩
theorem make_choices {w : World} {A : Around} {h : Heap} {DG : Addr} (B : Ok (KP w.params) h) (ar : Ar A 2) :
    Do PR w A (call (.ref 185) [.ref DG] []) h fun v h' => h.StaysIn h' ∧ X6 (fun x dx t1 t2 tk n => C5 (v = .ref x) (Inst h' x 185 dx (chEs w.params t1 t2 (.ref DG) (.int 0 tk)) n) (h.objs.size ≤ dx) (h.get? x = none) (h.get? dx = none)) := by
  refine DoMake B mk_Choices.1 mk_Choices.2.1 mk_Choices.2.2 fun h1 x dx n k1 I hd nx nd => ?_
  refine' DoDefC (args := ⟨[.ref x, .ref DG], []⟩) (binds := [("self", .ref x), ("row", .ref DG)]) (l := [("row", .ref DG), ("self", .ref x)]) (B.keeps k1) ?ho ?hcd ar.under.room ?hb ?hloc (.cons rfl (.cons rfl .nil)) ?c2 ?c3 ?c4 ?c5 ?go
  case ho => (first | (with_reducible apply Mine.kp_look; (focus k_is); decide) | (with_reducible apply Mine.kp_ns; (focus k_is); decide) | kernel_rfl)
  case hcd => (first | (with_reducible apply Mine.kp_look; (focus k_is); decide) | (with_reducible apply Mine.kp_ns; (focus k_is); decide) | kernel_rfl)
  case hb => exact fun _ _ => BindsTo.of_eq rfl
  case hloc => exact locs rfl
  case c2 => rfl
  case c3 => rfl
  case c4 => rfl
  case c5 => decide
  case go =>
    intro L h2 b
    refine Do.post fun RR hRR => ?_
    have hi : 254 ≤ dx := Nat.le_trans B.size hd
    have hne : dx ≠ L := b.ne I.d
    have hxd : x ≠ dx := inst_ne I I.d
    have B2 := (B.keeps k1).keeps b.st
    refine DsSetOwn B2 b (I.keeps b.st) hne os_185_row rfl (by show 0 ≤ 100; decide) (Pe.loc b.lo rfl) (Pe.loc b.lo rfl) ?_
    rintro v t h4 rfl b4 k4 e4
    have B4 := (B.keeps k1).but b4.but hi
    refine DsSetOwn (n := n + 1) B4 b4 ⟨b4.but _ _ hxd I.o, e4⟩ hne os_185_taken rfl (by show 1 ≤ 100; decide) Pe.int (Pe.loc b4.lo rfl) ?_
    rintro v t2 h6 ⟨tk, rfl⟩ b6 k6 e6
    refine Ds.nil (hRR _ _ ⟨rfl, fun c o e => b6.but2 _ _ (fun q => by exact no_at q nd e) (k1 _ _ e), x, dx, t, t2, tk, _, rfl, ⟨b6.but2 _ _ hxd I.o, e6⟩, hd, nx, nd⟩)
end Mine
end

-- Make2
section
open PySem PySem.W PySem.Calls PyProof.Rows PySem.Spec PySem.SeqAt
set_option tactic.hygienic false
namespace Mine
theorem Bd.but4 {g h : Heap} {L d : Addr} {l : List (Str × D)} (b : Bd ((((g.hide d).hide d).hide d).hide d) L l h) : But d g h := But.of_hide b.but3
theorem Bd.but5 {g h : Heap} {L d : Addr} {l : List (Str × D)} (b : Bd (((((g.hide d).hide d).hide d).hide d).hide d) L l h) : But d g h := But.of_hide b.but4
noncomputable def newRow : Row := { st := "ready", wt := none, an := none }
theorem make_goroutine {w : World} {A : Around} {h : Heap} {i : Nat} {ti : Tok} (B : Ok (KP w.params) h) (ar : Ar A 2) :
    Do PR w A (call (.ref 71) [.int i ti] []) h fun v h' => h.StaysIn h' ∧ X2 (fun x dx => C5 (v = .ref x) (GoAt w.params h' x dx i newRow) (h.objs.size ≤ dx) (h.get? x = none) (h.get? dx = none)) := by
  refine DoMake B mk_Goroutine.1 mk_Goroutine.2.1 mk_Goroutine.2.2 fun h1 x dx n k1 I hd nx nd => ?_
  refine' DoDefC (args := ⟨[.ref x, .int i ti], []⟩) (binds := [("self", .ref x), ("number", .int i ti)]) (l := [("number", .int i), ("self", .ref x)]) (B.keeps k1) ?ho ?hcd ar.under.room ?hb ?hloc (.cons ⟨_, rfl⟩ (.cons rfl .nil)) ?c2 ?c3 ?c4 ?c5 ?go
  case ho => (first | (with_reducible apply Mine.kp_look; (focus k_is); decide) | (with_reducible apply Mine.kp_ns; (focus k_is); decide) | kernel_rfl)
  case hcd => (first | (with_reducible apply Mine.kp_look; (focus k_is); decide) | (with_reducible apply Mine.kp_ns; (focus k_is); decide) | kernel_rfl)
  case hb => exact fun _ _ => BindsTo.of_eq rfl
  case hloc => exact locs rfl
  case c2 => rfl
  case c3 => rfl
  case c4 => rfl
  case c5 => decide
  case go =>
    intro L h2 b
    refine Do.post fun RR hRR => ?_
    have hi : 254 ≤ dx := Nat.le_trans B.size hd
    have hne : dx ≠ L := b.ne I.d
    have hxd : x ≠ dx := inst_ne I I.d
    obtain ⟨tR, eR⟩ := gl_READY (P := w.params)
    have B1 := B.keeps k1
    refine DsSetOwn (B1.keeps b.st) b (I.keeps b.st) hne os_71_number rfl (by show 0 ≤ 100; decide) (Pe.loc b.lo rfl) (Pe.loc b.lo rfl) ?_
    rintro v t1 h4 ⟨tn, rfl⟩ b4 k4 e4
    have B4 := B1.but b4.but hi
    refine DsSetOwn (n := n + 1) B4 b4 ⟨b4.but _ _ hxd I.o, e4⟩ hne os_71_state rfl (by show 1 ≤ 100; decide) (Pe.glob (d := .str "ready") B4 eR ⟨_, rfl⟩) (Pe.loc b4.lo rfl) ?_
    rintro v t2 h6 ⟨ts, rfl⟩ b6 k6 e6
    have B6 := B1.but b6.but2 hi
    refine DsSetOwn (n := n + 2) B6 b6 ⟨b6.but2 _ _ hxd I.o, e6⟩ hne os_71_waits_for rfl (by show 2 ≤ 100; decide) Pe.none (Pe.loc b6.lo rfl) ?_
    rintro v t3 h8 rfl b8 k8 e8
    have B8 := B1.but b8.but3 hi
    refine DsSetOwnG (n := n + 3) (V := fun v h' => True) B8 b8 ⟨b8.but3 _ _ hxd I.o, e8⟩ hne os_71_frames rfl (by show 3 ≤ 100; decide) (DoList Args.plain0 fun vs h5 p => ?_) (fun h5 k5 => Pe.loc (b8.lo.keeps k5) rfl) ?_
    · revert h5 p; refine i1 fun q => ?_
      cases q
      exact ⟨Nat.zero_le _, fun h2 l k _ _ _ => ⟨k, trivial⟩⟩
    · rintro fr t4 h5 h10 - k5 b10 k10 e10
      have B10 := B1.but b10.but4 hi
      refine DsSetOwn (n := n + 4) B10 b10 ⟨b10.but4 _ _ hxd I.o, e10⟩ hne os_71_answer rfl (by show 4 ≤ 100; decide) Pe.none (Pe.loc b10.lo rfl) ?_
      rintro v t5 h12 rfl b12 k12 e12
      refine Ds.nil (hRR _ _ ⟨rfl, fun c o e => b12.but5 _ _ (fun q => by exact no_at q nd e) (k1 _ _ e), x, dx, rfl, ⟨t1, t2, t3, t4, t5, tn, ts, .none, fr, .none, _, ⟨b12.but5 _ _ hxd I.o, e12⟩, rfl, rfl⟩, hd, nx, nd⟩)
theorem make_scheduler {w : World} {A : Around} {h : Heap} {C : Addr} (B : Ok (KP w.params) h) (ar : Ar A 2) :
    Do PR w A (call (.ref 157) [.ref C] []) h fun v h' => h.StaysIn h' ∧ X5 (fun x dx AL t1 t2 => X2 (fun t3 n => C8 (v = .ref x) (Inst h' x 157 dx (scEs w.params t1 t2 t3 (.ref C) (.ref AL) .none) n) (h'.PlainList AL #[]) (h.objs.size ≤ dx) (254 ≤ AL) (h.get? x = none) (h.get? dx = none) (h.get? AL = none))) := by
  refine DoMake B mk_Scheduler.1 mk_Scheduler.2.1 mk_Scheduler.2.2 fun h1 x dx n k1 I hd nx nd => ?_
  refine' DoDefC (args := ⟨[.ref x, .ref C], []⟩) (binds := [("self", .ref x), ("choices", .ref C)]) (l := [("choices", .ref C), ("self", .ref x)]) (B.keeps k1) ?ho ?hcd ar.under.room ?hb ?hloc (.cons rfl (.cons rfl .nil)) ?c2 ?c3 ?c4 ?c5 ?go
  case ho => (first | (with_reducible apply Mine.kp_look; (focus k_is); decide) | (with_reducible apply Mine.kp_ns; (focus k_is); decide) | kernel_rfl)
  case hcd => (first | (with_reducible apply Mine.kp_look; (focus k_is); decide) | (with_reducible apply Mine.kp_ns; (focus k_is); decide) | kernel_rfl)
  case hb => exact fun _ _ => BindsTo.of_eq rfl
  case hloc => exact locs rfl
  case c2 => rfl
  case c3 => rfl
  case c4 => rfl
  case c5 => decide
  case go =>
    intro L h2 b
    refine Do.post fun RR hRR => ?_
    have hi : 254 ≤ dx := Nat.le_trans B.size hd
    have hne : dx ≠ L := b.ne I.d
    have hxd : x ≠ dx := inst_ne I I.d
    have B1 := B.keeps k1
    refine DsSetOwn (B1.keeps b.st) b (I.keeps b.st) hne os_157_choices rfl (by show 0 ≤ 100; decide) (Pe.loc b.lo rfl) (Pe.loc b.lo rfl) ?_
    rintro v t1 h4 rfl b4 k4 e4
    have B4 := B1.but b4.but hi
    refine DsSetOwnG (n := n + 1) (V := fun v h' => X1 (fun l => C4 (v = .ref l) (h'.PlainList l #[]) (h4.get? l = none) (h4.objs.size ≤ l))) B4 b4 ⟨b4.but _ _ hxd I.o, e4⟩ hne os_157_all rfl (by show 1 ≤ 100; decide) (DoList Args.plain0 fun vs h5 p => ?_) (fun h5 k5 => Pe.loc (b4.lo.keeps k5) rfl) ?_
    · revert h5 p; refine i1 fun q => ?_
      cases q
      exact ⟨Nat.zero_le _, fun h2 l k a c e => ⟨k, l, rfl, e, a, c⟩⟩
    · rintro v t2 h5 h6 ⟨AL, rfl, hAL, nAL, hz⟩ k5 b6 k6 e6
      have B6 := B1.but b6.but2 hi
      have hALL : AL ≠ L := fun q => by
        obtain ⟨m, ⟨o, es, ep, e, r⟩, _⟩ := b4.lo
        rw [q] at nAL
        have e' : h4.get? L = some o := e
        exact no_one nAL e'
      have hALd : AL ≠ dx := fun q => by rw [q, e4] at nAL; cases nAL
      have A6 : h6.PlainList AL #[] := hAL.at fun o e => k6 _ _ hALL hALd e
      refine DsSetOwn (n := n + 2) B6 b6 ⟨b6.but2 _ _ hxd I.o, e6⟩ hne os_157_here rfl (by show 2 ≤ 100; decide) Pe.none (Pe.loc b6.lo rfl) ?_
      rintro v t3 h8 rfl b8 k8 e8
      have st : h.StaysIn h4 := fun c o e => b4.but _ _ (fun q => by exact no_at q nd e) (k1 _ _ e)
      have size4 : 254 ≤ AL := Nat.le_trans B4.size hz
      refine Ds.nil (hRR _ _ ⟨rfl, fun c o e => b8.but3 _ _ (fun q => by exact no_at q nd e) (k1 _ _ e), x, dx, AL, t1, t2, t3, _, rfl, ⟨b8.but3 _ _ hxd I.o, e8⟩, A6.at fun o e => k8 _ _ hALL hALd e, hd, size4, nx, nd, ?_⟩)
      cases q : h.get? AL with
      | none => rfl
      | some o => have := st _ _ q; exact no_one nAL this
end Mine
end

-- Meth3
section
open PySem PySem.W PySem.Calls PyProof.Rows PySem.Spec PySem.SeqAt
set_option tactic.hygienic false
namespace Mine
section
variable {PR : Program} {w : World} {A : Around} {env : Env} {h : Heap} {K : Frag}
-- o.append(x) as a statement
theorem DsAppend {o x : Expr} {apos pos spos : Pos} {rest : List Stmt} {l : Addr} {items : Array Value} {pl : Sem Bool} {V : Value → Heap → Prop} {R : Flow → Heap → Prop} (B : Ok K h) (hl : h.PlainList l items) (sz : items.size ≤ sizeLine) (dO : Pe PR w A o env h (.ref l)) (dx : Do PR w A (eval x env) h fun v h1 => h.StaysIn h1 ∧ V v h1)
    (go : ∀ v h1 h', V v h1 → h.StaysIn h1 → h'.PlainList l (items.push v) → Heap.SameBut l h1 h' → Do PR w A (execs rest env) h' R)
    (he : MethodTree o "append" apos pos [x] env pl := by with_unfolding_all rfl) (hs : starEach [x] env = (false, eval x env) :: starEach [] env := by rfl) (hi : interactive env = false := by rfl) (hw : swapsWith (.Call (.Attribute o "append" apos) [x] [] pos) none spos.line env = pure false := by rfl) :
    Do PR w A (execs (.Expr (.Call (.Attribute o "append" apos) [x] [] pos) spos :: rest) env) h R := fun s Q E e q => by
  refine wpAny_execs_cons (wpAny_Expr (methodCall_KW (pl := pl) (kws := []) (dO s _ E e fun u h1 tk p => ?_) he) hi hw)
  obtain ⟨rfl, rfl⟩ := p
  obtain ⟨n, hn⟩ := id hl
  refine getMethod_list_append hn rfl rfl ?_
  refine DoCallWith (K := K) (PR := PR) (w := w) (A := A) (first := [.ref l]) (R := fun v h' => v = .none ∧ X2 (fun y h1' => C4 (V y h1') (h1.StaysIn h1') (h'.PlainList l (items.push y)) (Heap.SameBut l h1' h'))) Callable.id (Args.cons (R := fun vs h' => X1 (fun v => C3 (vs = [v]) (h1.StaysIn h') (V v h'))) (he := hs) dx fun v h2 p2 => Args.nil ⟨v, rfl, p2.1, p2.2⟩) (fun vs h2 p2 => ?_) hs rfl _ _ E rfl fun v h' tk r => ?_
  · obtain ⟨v, rfl, k2, hv⟩ := p2
    refine ⟨B.keeps k2, fun s Q E e q => ?_⟩
    subst e
    exact wpAny_list_append_plain (hl.at fun o e => k2 _ o e) (fun h' a b => Do.now (h := h') rfl (fun v h'' tk p => q v h'' tk p) ⟨rfl, v, s.heap, hv, k2, a, b⟩) sz
  · obtain ⟨rfl, y, h1', hy, k1, a, b⟩ := r
    exact go y h1' h' hy k1 a b _ Q E rfl fun v h' tk r => q v h' tk r
end
section
variable {w : World} {A : Around} {h : Heap} {S dS C dC DG AL : Addr} {gs ds : List Addr} {grs : List Row} {here : Option Nat} {digits : List Int} {taken : Int}
noncomputable def spW (rows : List Row) (i : Nat) : Option (Nat × Option Int) := match rows[i]? with
  | some r => if stIs "blocked" r then some (i, r.wt) else none
  | none => none
noncomputable def waitsOf (rows : List Row) : List (Nat × Option Int) := selOf (spW rows) rows.length
noncomputable def WaitAt (h : Heap) (v : Value) (p : Nat × Option Int) : Prop := X4 (fun T n t wv => C3 (v = .ref T) (h.get? T = some (tupObj #[.int p.1 t, wv] n)) (WtAt h wv p.2))
theorem WaitAt.mono {g g' : Heap} {v : Value} {p : Nat × Option Int} (x : WaitAt g v p) (k : g.StaysIn g') : WaitAt g' v p := let ⟨T, n, t, wv, e, a, b⟩ := x; ⟨T, n, t, wv, e, k _ _ a, b.off (.ofStays k)⟩
theorem waiting_spec (B : Ok (KP w.params) h) (ar : Ar A 1) (SC : Sched w.params h S dS C dC DG AL gs ds grs here digits taken) (sz : gs.length ≤ 1000) :
    Do PR w A (call (.ref 154) [.ref S] []) h fun v h' => h.StaysIn h' ∧ X2 (fun D ys => C3 (v = .ref D) (h'.IsList D ys.toArray) (Paired (WaitAt h') ys (waitsOf grs))) := by
  refine' DoDef (args := ⟨[.ref S], []⟩) (binds := [("self", .ref S)]) (l := [("self", .ref S)]) B ?ho ?hcd ar.room ?hb ?hloc (.cons rfl .nil) ?c2 ?c3 ?c4 ?c5 ?go
  case ho => (first | (with_reducible apply Mine.kp_look; (focus k_is); decide) | (with_reducible apply Mine.kp_ns; (focus k_is); decide) | kernel_rfl)
  case hcd => (first | (with_reducible apply Mine.kp_look; (focus k_is); decide) | (with_reducible apply Mine.kp_ns; (focus k_is); decide) | kernel_rfl)
  case hb => exact fun _ _ => BindsTo.of_eq rfl
  case hloc => exact locs rfl
  case c2 => rfl
  case c3 => rfl
  case c4 => rfl
  case c5 => decide
  case go =>
    intro L h1 b
    have B1 := B.keeps b.st
    have S1 := SC.keeps b.st
    obtain ⟨t1, t2, t3, n, IS⟩ := S1.s
    refine Ds.ret (DoCompQ (Pe.attr (d := .ref AL) B1 IS oa_157_all rfl rfl (Pe.loc b.lo rfl)) (closureFor_none (by decide)) (by decide) (by rfl) (by decide) ?_)
    refine Mine.i2 ?_
    obtain ⟨tB, eB⟩ := gl_BLOCKED (P := w.params)
    refine ⟨_, h1, _, spW grs, WaitAt, _, _, _, quiet_all ar.hh S1 (by first | exact List.mem_append_left _ (.head _) | exact List.mem_append_left _ (.tail _ (.head _)) | exact List.mem_append_left _ (.tail _ (.tail _ (.head _))) | exact List.mem_append_left _ (.tail _ (.tail _ (.tail _ (.head _)))) | exact .head _ | exact .tail _ (.head _) | simp) (by rfl) (by rfl) (by first | with_reducible exact sl (by assumption) | with_reducible exact slm (by assumption) | (unfold sizeLine; omega)) (fun _ _ _ _ x k => x.mono k) ?_, ?_⟩
    · intro X C i g gi di r e1 e2 e3 k ex lo G
      have kg : h1.StaysIn g := fun b o e => of_hideAll _ (k b o e)
      have Bg := B1.keeps kg
      obtain ⟨es, ne, I, ti, ts, wv, fr, av, g1, g2, g3, g4, g5, hw, ha⟩ := G.inst
      have I' := I.keeps hideAll_stays
      refine Dtests1 ((Pt.cmp Cmp.eqS (Pe.attr Bg I' oa_71_state g2 ⟨_, rfl⟩ (Pe.loc lo rfl)) (Pe.glob Bg eB ⟨_, rfl⟩)).mono ?_)
      refine Mine.i2 ?_
      have hsp : spW grs i = if stIs "blocked" r then some (i, r.wt) else none := by unfold spW; rw [e3]
      refine ⟨fun _ _ e => e, ?_, fun b hb => ?_⟩
      · rw [hsp]
        show (stIs "blocked" r) = _
        cases stIs "blocked" r <;> rfl
      · rw [hsp] at hb
        have hb' : b = (i, r.wt) := by
          split at hb
          · exact (Option.some.inj hb).symm
          · cases hb
        subst hb'
        refine DoTuple (P := fun vs h' => h' = g ∧ ∃ t, vs = [.int i t, wv]) (Args.cons (Pe.attr (d := .int i) Bg I' oa_71_number g1 ⟨_, rfl⟩ (Pe.loc lo rfl)) fun v h3 p => ?_) fun vs h3 p => ?_
        · revert v h3 p; refine Mine.i2t fun t => ?_
          refine Args.cons (P := fun v h' => h' = g ∧ v = wv) ((Do.attr (Pe.loc (d := .ref gi) lo rfl) fun u h4 p => ?_)) fun v h4 p => ?_
          · revert u h4 p; refine i2 ?_
            exact DoGetAttr Bg I' oa_71_waits_for g3 hw.handed
          · revert v h4 p; refine i2 ?_
            exact Args.nil ⟨rfl, t, rfl⟩
        · revert vs h3 p; refine i2t fun t => ?_
          refine ⟨by show 2 ≤ sizeLine; decide, fun h4 T n k4 nT _ eT => ⟨k4, T, n, t, wv, rfl, ?_, ?_⟩⟩
          · refine hideAll_get _ eT fun q => ?_
            obtain ⟨o, eo⟩ := ex _ q
            exact no_one nT eo
          · refine hw.off (Tups.ofStays fun c o e => hideAll_get _ (k4 _ _ (of_hideAll _ e)) fun q => ?_)
            exact no_one (hideAll_none _ q) e
    · intro D h' ys k D0 hl ps
      refine ⟨fun b' o e => k b' o (b.st b' o e), D, ys, rfl, hl, ?_⟩
      rw [SC.lg] at ps
      exact ps
theorem dead_spec (B : Ok (KP w.params) h) (ar : Ar A 2) (SC : Sched w.params h S dS C dC DG AL gs ds grs here digits taken) (sz : gs.length ≤ 1000) :
    Do PR w A (call (.ref 149) [.ref S] []) h fun v h' => h.StaysIn h' ∧ v = .bool (decide (idxOf (stIs "ready") grs = []) && !decide (idxOf (stIs "blocked") grs = [])) := by
  refine' DoDef (args := ⟨[.ref S], []⟩) (binds := [("self", .ref S)]) (l := [("self", .ref S)]) B ?ho ?hcd ar.room ?hb ?hloc (.cons rfl .nil) ?c2 ?c3 ?c4 ?c5 ?go
  case ho => (first | (with_reducible apply Mine.kp_look; (focus k_is); decide) | (with_reducible apply Mine.kp_ns; (focus k_is); decide) | kernel_rfl)
  case hcd => (first | (with_reducible apply Mine.kp_look; (focus k_is); decide) | (with_reducible apply Mine.kp_ns; (focus k_is); decide) | kernel_rfl)
  case hb => exact fun _ _ => BindsTo.of_eq rfl
  case hloc => exact locs rfl
  case c2 => rfl
  case c3 => rfl
  case c4 => rfl
  case c5 => decide
  case go =>
    intro L h1 b
    have B1 := B.keeps b.st
    have S1 := SC.keeps b.st
    obtain ⟨t1, t2, t3, n, IS⟩ := S1.s
    have lens : ∀ {β : Type} {F : Value → β → Prop} {ys : List Value} {zs : List β}, Paired F ys zs → decide (ys = []) = decide (zs = []) := by
      intro β F ys zs p
      cases p <;> simp
    refine Ds.ret (Do.mono (DoAnd (P := fun c h' => h1.StaysIn h' ∧ c = decide (idxOf (stIs "ready") grs = [])) (R := fun c h' => h1.StaysIn h' ∧ c = (decide (idxOf (stIs "ready") grs = []) && !decide (idxOf (stIs "blocked") grs = []))) ?_ ?_ ?_) ?_)
    · refine Do.cmp (P2 := fun a b' h' => h1.StaysIn h' ∧ X3 (fun D ys e => C5 (a = .ref D) (b' = .ref e) (h'.IsList D ys.toArray) (h'.IsList e #[]) (decide (ys = []) = decide (idxOf (stIs "ready") grs = [])))) (DoMethod0 B1 IS om_ready_ones rfl ke.2.2.1 (Pe.loc b.lo rfl) (ready_spec B1 ar.hh ar.deeper.room S1 sz)) (fun a h2 p => ?_) fun a b' h2 p => ?_
      · obtain ⟨k2, D, ys, rfl, _, hl, ps⟩ := p
        refine DoList Args.plain0 fun vs h3 p => ?_
        revert h3 p; refine i1 fun q => ?_
        cases q
        exact ⟨Nat.zero_le _, fun h4 l k4 _ _ e4 => ⟨fun c o e => k4 _ _ (k2 _ _ e), D, ys, l, rfl, rfl, IsList_keeps hl k4, e4.isList, lens ps⟩⟩
      · obtain ⟨k2, D, ys, e, rfl, rfl, hl, he, hq⟩ := p
        refine (Do.eqEmpty ar.deeper.c0 hl he).mono ?_
        refine i2 ?_
        exact ⟨_, rfl, k2, hq⟩
    · rintro h2 ⟨k2, hc⟩
      have B2 := B1.keeps k2
      have S2 := S1.keeps k2
      have lo2 := b.lo.keeps k2
      obtain ⟨t1, t2, t3, n, IS2⟩ := S2.s
      obtain ⟨tB, eB⟩ := gl_BLOCKED (P := w.params)
      refine Do.cmp (P := fun a h' => h2.StaysIn h' ∧ X2 (fun D ys => C3 (a = .ref D) (h'.IsList D ys.toArray) (decide (ys = []) = decide (idxOf (stIs "blocked") grs = [])))) (P2 := fun a b' h' => h2.StaysIn h' ∧ X3 (fun D ys e => C5 (a = .ref D) (b' = .ref e) (h'.IsList D ys.toArray) (h'.IsList e #[]) (decide (ys = []) = decide (idxOf (stIs "blocked") grs = [])))) (DoCompQ (Pe.attr (d := .ref AL) B2 IS2 oa_157_all rfl rfl (Pe.loc lo2 rfl)) (closureFor_none (by decide)) (by decide) (by rfl) (by decide) ?_) (fun a h3 p => ?_) fun a b' h3 p => ?_
      · refine Mine.i2 ?_
        refine ⟨Nat, h2, _, spOf (stIs "blocked") grs, fun g v i => ∃ a, gs[i]? = some a ∧ v = .ref a, _, _, _, quiet_all ar.hh S2 (by first | exact List.mem_append_left _ (.head _) | exact List.mem_append_left _ (.tail _ (.head _)) | exact List.mem_append_left _ (.tail _ (.tail _ (.head _))) | exact List.mem_append_left _ (.tail _ (.tail _ (.tail _ (.head _)))) | exact .head _ | exact .tail _ (.head _) | simp) (by rfl) (by rfl) (by first | with_reducible exact sl (by assumption) | with_reducible exact slm (by assumption) | (unfold sizeLine; omega)) (fun _ _ _ _ x _ => x) ?_, ?_⟩
        · intro X C i g gi di r e1 e2 e3 k ex lo G
          have kg : h2.StaysIn g := fun b o e => of_hideAll _ (k b o e)
          have Bg := B2.keeps kg
          obtain ⟨es, ne, I, ti, ts, wv, fr, av, g1, g2, g3, g4, g5, hw, ha⟩ := G.inst
          have I' := I.keeps hideAll_stays
          refine Dtests1 ((Pt.cmp Cmp.eqS (Pe.attr Bg I' oa_71_state g2 ⟨_, rfl⟩ (Pe.loc lo rfl)) (Pe.glob Bg eB ⟨_, rfl⟩)).mono ?_)
          refine i2 ?_
          refine ⟨fun _ _ e => e, (spOf_is (p := stIs "blocked") e3).symm, fun b hb => ?_⟩
          have := spOf_eq hb
          subst this
          refine (Pe.loc lo rfl).mono ?_
          refine i1v fun y hy => ?_
          exact ⟨fun _ _ e => e, gi, e1, hy⟩
        · intro D h' ys k D0 hl ps
          refine ⟨k, D, ys, rfl, hl, ?_⟩
          rw [SC.lg] at ps
          exact lens ps
      · obtain ⟨k3, D, ys, rfl, hl, ps⟩ := p
        refine DoList Args.plain0 fun vs h4 p => ?_
        revert h4 p; refine i1 fun q => ?_
        cases q
        exact ⟨Nat.zero_le _, fun h5 l k5 _ _ e5 => ⟨fun c o e => k5 _ _ (k3 _ _ e), D, ys, l, rfl, rfl, IsList_keeps hl k5, e5.isList, ps⟩⟩
      · obtain ⟨k3, D, ys, e, rfl, rfl, hl, he, hq⟩ := p
        refine (Do.neEmpty ar.deeper.c0 hl he).mono ?_
        refine i2 ?_
        exact ⟨_, rfl, fun c o e => k3 _ _ (k2 _ _ e), by rw [hq, ← hc]; rfl⟩
    · rintro h2 ⟨k2, hc⟩
      exact ⟨k2, by rw [← hc]; rfl⟩
    · rintro v h2 ⟨c, rfl, k2, rfl⟩
      exact ⟨fun c o e => k2 _ _ (b.st _ _ e), rfl⟩
end
end Mine
end

-- Meth4
section
open PySem PySem.W PySem.Calls PyProof.Rows PySem.Spec PySem.SeqAt
set_option tactic.hygienic false
namespace Mine
section
variable {w : World} {A : Around} {h : Heap} {S dS C dC DG AL : Addr} {gs ds : List Addr} {grs : List Row} {here : Option Nat} {digits : List Int} {taken : Int}
theorem GoAt.onList {P : Params} {a : Addr} {items : Array Value} {h' : Heap} {g dg : Addr} {i : Nat} {r : Row} (x : GoAt P h g dg i r) (k : But a h h') (ha : h.IsList a items) : GoAt P h' g dg i r := by
  obtain ⟨o, e, c, _⟩ := ha
  obtain ⟨u1, u2, u3, u4, u5, ui, us, wv, fr, av, m, J, hw, hn⟩ := x.at_
  refine ⟨u1, u2, u3, u4, u5, ui, us, wv, fr, av, m, k.inst ?_ ?_ J, k.wt e (by rw [c]; simp) hw, hn⟩
  · exact ne_of J.o e (by rw [c]; simp)
  · exact ne_of J.d e (by rw [c]; simp)
noncomputable def hereOr (here : Option Nat) (i : Nat) : Option Nat := match here with
  | some j => some j
  | none => some i
theorem Off.one {d : Addr} {h h' : Heap} (k : But d h h') : Off [d] h h' := fun b o e hb => k b o (fun q => hb (by first | exact List.mem_cons.mpr (.inl q) | exact List.mem_cons_of_mem _ (List.mem_singleton.mpr q) | simp [q])) e
theorem stay_hide {h h' : Heap} {Z : List Addr} (k : h.StaysIn h') : (hideAll h Z).StaysIn (hideAll h' Z) := fun c o e => hideAll_get Z (k _ _ (of_hideAll Z e)) (hide_no e)
theorem none_hide {h : Heap} {Z : List Addr} {a : Addr} (n : h.get? a = none) : (hideAll h Z).get? a = none := by
  cases q : (hideAll h Z).get? a with
  | none => rfl
  | some o => rw [of_hideAll Z q] at n; cases n
-- a goroutine more
theorem spawn_spec {Z : List Addr} (B : Ok (KP w.params) h) (ar : Ar A 3) (SC : Sched w.params (hideAll h Z) S dS C dC DG AL gs ds grs here digits taken) (zin : ∀ a ∈ Z, ∃ o, h.get? a = some o) (sz : gs.length ≤ 1000) (hS : 254 ≤ dS) (hA : 254 ≤ AL) :
    Do PR w A (call (.ref 96) [.ref S] []) h fun v h' => X2 (fun g d => C6 (v = .ref g) (Sched w.params (hideAll h' Z) S dS C dC DG AL (gs ++ [g]) (ds ++ [d]) (grs ++ [newRow]) (hereOr here gs.length) digits taken) (Off [AL, dS] h h') (254 ≤ d) (h.get? d = none) (h.get? g = none)) := by
  refine' DoDef (args := ⟨[.ref S], []⟩) (binds := [("self", .ref S)]) (l := [("self", .ref S)]) B ?ho ?hcd ar.room ?hb ?hloc (.cons rfl .nil) ?c2 ?c3 ?c4 ?c5 ?go
  case ho => (first | (with_reducible apply Mine.kp_look; (focus k_is); decide) | (with_reducible apply Mine.kp_ns; (focus k_is); decide) | kernel_rfl)
  case hcd => (first | (with_reducible apply Mine.kp_look; (focus k_is); decide) | (with_reducible apply Mine.kp_ns; (focus k_is); decide) | kernel_rfl)
  case hb => exact fun _ _ => BindsTo.of_eq rfl
  case hloc => exact locs rfl
  case c2 => rfl
  case c3 => rfl
  case c4 => rfl
  case c5 => decide
  case go =>
    intro L h1 b
    refine Do.post fun RR hRR => ?_
    have B1 := B.keeps b.st
    have S0 := SC.keeps hideAll_stays
    have S1 := S0.keeps b.st
    obtain ⟨t1, t2, t3, n, IS⟩ := S1.s
    have hALL : AL ≠ L := let ⟨n, e⟩ := S0.alp; b.ne e
    have hSL : dS ≠ L := let ⟨_, _, _, _, I⟩ := S0.s; b.ne I.d
    have own0 : ∀ a ∈ L :: Z, (hideAll h Z).get? a = none := fun a ha => by
      revert a ha; refine Mine.allc ?_ fun a ha => ?_
      · exact none_hide b.own
      · exact hideAll_none Z ha
    have exL : ∀ a ∈ L :: Z, ∃ o, h1.get? a = some o := fun a ha => by
      revert a ha; refine Mine.allc ?_ fun a ha => ?_
      · obtain ⟨m, ⟨o, es, ep, e, r⟩, _⟩ := b.lo; exact ⟨o, e⟩
      · obtain ⟨o, e⟩ := zin a ha; exact ⟨o, b.st _ _ e⟩
    refine Ds.assign (P := fun v h' => h1.StaysIn h' ∧ X2 (fun x dx => C5 (v = .ref x) (GoAt w.params (hideAll h' (L :: Z)) x dx gs.length newRow) (254 ≤ dx) (h1.get? x = none) (h1.get? dx = none)))
      (Do.callName (Pe.glob (d := .ref 71) B1 gl_Goroutine rfl) fun u h2 p => ?_) fun v h2 p => ?_
    · revert u h2 p; refine i2 ?_
      refine DoCallWith (K := KP w.params) (Callable.ofK ke_f.2.2.2.2.2.2.2.2.1) (Args.plain1 (Pe.len B1 gl_len S1.al (by first | with_reducible exact zlen (by assumption) | with_reducible exact zlenE (by assumption) (by assumption) | with_reducible exact zvs (by assumption) | with_reducible exact zvsE (by assumption) (by assumption) | (simp; omega)) (Pe.attr (d := .ref AL) B1 IS oa_157_all rfl rfl (Pe.loc b.lo rfl))) Args.plain0) fun vs h3 p => ?_
      obtain ⟨rfl, p⟩ := p
      obtain ⟨v, rfl, t, rfl⟩ := p.one
      refine ⟨B1, ?_⟩
      have hz : ((gs.map Value.ref).toArray.size : Int) = (gs.length : Nat) := by simp
      rw [hz]
      refine (make_goroutine (i := gs.length) B1 ar.deeper).mono ?_
      rintro v h4 ⟨k, x, dx, rfl, G, z, nx, nd⟩
      refine ⟨k, x, dx, rfl, ?_, Nat.le_trans B1.size z, nx, nd⟩
      obtain ⟨t1, t2, t3, t4, t5, ti, ts, wv, fr, av, n, I, hw, ha⟩ := G.at_
      have no : ∀ a, h3.get? a = none → a ∉ L :: Z := fun a na q => by
        obtain ⟨o, e⟩ := exL a q
        exact no_one na e
      exact ⟨t1, t2, t3, t4, t5, ti, ts, wv, fr, av, n, ⟨hideAll_get _ I.o (no _ nx), hideAll_get _ I.d (no _ nd)⟩, hw, ha⟩
    · obtain ⟨k2, x, dx, rfl, G, hdx, nx, nd⟩ := p
      refine ⟨h, _, .ref x, b.keeps k2, rfl, fun h3 b3 s3 => ?_⟩
      have no0 : ∀ a, h1.get? a = none → h.get? a = none := fun a na => fresh_of b.st na
      have k3 : (hideAll h2 (L :: Z)).StaysIn (hideAll h3 (L :: Z)) := fun c o e => hideAll_get _ (s3.extBut c o (fun q => hide_no e (q ▸ .head _)) (of_hideAll _ e)) (hide_no e)
      have G3 := G.keeps k3
      have B3 := B.keeps b3.st
      have S3 : Sched w.params (hideAll h3 (L :: Z)) S dS C dC DG AL gs ds grs here digits taken := SC.keeps (stays_hideAll (fun c o e => b3.st _ _ (of_hideAll _ e)) own0)
      obtain ⟨t1, t2, t3, n, IS3⟩ := S3.s
      refine DsAppend (V := fun v h' => v = .ref x ∧ h' = h3) B3 (S3.alp.at fun o e => of_hideAll _ e) (by simp; unfold sizeLine; omega) (Pe.attr (d := .ref AL) B3 (IS3.keeps hideAll_stays) oa_157_all rfl rfl (Pe.loc b3.lo rfl)) ((Pe.loc b3.lo rfl).mono ?_) ?_
      · refine i2 ?_
        exact ⟨fun _ _ e => e, rfl, rfl⟩
      · rintro v h4 h5 ⟨rfl, rfl⟩ - l5 s5
        have bu : But AL h4 h5 := fun c o hc e => s5.extBut c o hc e
        have bz : But AL (hideAll h4 (L :: Z)) (hideAll h5 (L :: Z)) := but_hide bu
        have P5 := S3.push bz (l5.at fun o e => (let ⟨n, e0⟩ := S3.alp; at_hide e e0)) (G3.onList bz S3.al)
        have b5 : Bd (h.hide AL) L _ h5 := b3.turn (b3.lo.at fun o e => bu _ _ (Ne.symm hALL) e) fun c o h1 h2 e => bu _ _ h2 e
        have B5 := B.but b5.but hA
        obtain ⟨u1, u2, u3, un, IS5⟩ := P5.s
        have I5 := IS5.keeps hideAll_stays
        have up : ∀ {g : Heap}, (hideAll g (L :: Z)).StaysIn (hideAll g Z) := fun {g} c o e => hideAll_get Z (of_hideAll _ e) fun q => hide_no e (.tail _ q)
        refine Ds.ifGo (T := fun c h' => h' = h5 ∧ c = here.isNone) (P := fun h' => X1 (fun g' => C3 (Bd g' L [("found", .ref x), ("self", .ref S)] h') (Sched w.params (hideAll h' Z) S dS C dC DG AL (gs ++ [x]) (ds ++ [dx]) (grs ++ [newRow]) (hereOr here gs.length) digits taken) (Off [AL, dS] h h'))) ?_ ?_ ?_ ?_
        · cases here with
          | none => exact Pt.cmp Cmp.noneIs (Pe.attr (d := .none) B5 I5 oa_157_here rfl rfl (Pe.loc b5.lo rfl)) Pe.none
          | some j =>
            have hj : j < gs.length := by rw [SC.lg]; exact SC.lo j rfl
            have e1 : hereVal (gs ++ [x]) (some j) = .ref gs[j] := hereVal_some (by rw [List.getElem?_append_left hj]; exact List.getElem?_eq_getElem hj)
            rw [e1] at I5
            exact Pt.cmp Cmp.refIs (Pe.attr (d := .ref gs[j]) B5 I5 oa_157_here rfl rfl (Pe.loc b5.lo rfl)) Pe.none
        · refine i1 fun hc => ?_
          have hn : here = none := by cases here with | none => rfl | some j => cases hc
          subst hn
          refine DsSetOwn B5 b5 I5 hSL os_157_here rfl (by show 3 ≤ 100; decide) (Pe.loc b5.lo rfl) (Pe.loc b5.lo rfl) ?_
          rintro v t h7 rfl b7 k7 e7
          have bu7 : But dS (hideAll h5 (L :: Z)) (hideAll h7 (L :: Z)) := fun c o hc e => hideAll_get _ (k7 c o (fun q => hide_no e (q ▸ .head _)) hc (of_hideAll _ e)) (hide_no e)
          refine Ds.nil ⟨rfl, _, b7, Sched.keeps (Sched.goHere P5 (here' := some gs.length) bu7 ⟨u1, u2, u3, un, ?_⟩ ?_) up, fun c o e hn => ?_⟩
          · rw [hereVal_some (g := x) (by first | exact List.mem_append_left _ (.head _) | exact List.mem_append_left _ (.tail _ (.head _)) | exact List.mem_append_left _ (.tail _ (.tail _ (.head _))) | exact List.mem_append_left _ (.tail _ (.tail _ (.tail _ (.head _)))) | exact .head _ | exact .tail _ (.head _) | simp)]
            exact at_hide e7 IS5.d
          · intro i e
            cases e
            simp [← SC.lg]
          · have hc1 : c ≠ AL := fun q => hn (by first | exact List.mem_cons.mpr (.inl q) | exact List.mem_cons_of_mem _ (List.mem_singleton.mpr q) | simp [q])
            have hc2 : c ≠ dS := fun q => hn (by first | exact List.mem_cons.mpr (.inl q) | exact List.mem_cons_of_mem _ (List.mem_singleton.mpr q) | simp [q])
            exact b7.st c o ((Heap.hide_ne _ hc2).trans ((Heap.hide_ne _ hc1).trans e))
        · refine i1 fun hc => ?_
          obtain ⟨j, rfl⟩ : ∃ j, here = some j := by cases here with | none => cases hc | some j => exact ⟨j, rfl⟩
          exact Ds.nil ⟨rfl, _, b5, P5.keeps up, fun c o e hn => b5.but _ _ (fun q => hn (by first | exact List.mem_cons.mpr (.inl q) | exact List.mem_cons_of_mem _ (List.mem_singleton.mpr q) | simp [q])) e⟩
        · rintro h6 ⟨g', b6, P6, o6⟩
          refine Ds.ret ((Pe.loc b6.lo rfl).mono ?_)
          refine i2 ?_
          exact hRR _ _ ⟨x, dx, rfl, P6, o6, hdx, no0 _ nd, no0 _ nx⟩
end
end Mine
end

-- Meth5
section
open PySem PySem.W PySem.Calls PyProof.Rows PySem.Spec PySem.SeqAt
set_option tactic.hygienic false
namespace Mine
theorem paired_get {α β : Type} {F : α → β → Prop} {l : List α} {m : List β} (p : Paired F l m) : ∀ (k : Nat) (b : β), m[k]? = some b → ∃ a, l[k]? = some a ∧ F a b := by
  induction p with
  | nil => intro k b e; simp at e
  | cons x t ih =>
    intro k b e
    cases k with
    | zero => simp at e; subst e; exact ⟨_, rfl, x⟩
    | succ k => simpa using ih k b (by simpa using e)
theorem pick_lt {digits : List Int} {taken many : Nat} (h : 0 < many) : 0 ≤ pickOf digits taken many ∧ pickOf digits taken many < many := by
  unfold pickOf
  split
  · omega
  · split
    · rename_i d e
      rw [Int.fmod_eq_emod_of_nonneg _ (by with_reducible first | exact Int.natCast_nonneg _ | exact z63 (by assumption) (by assumption) | exact z65 (by assumption) (by assumption) | exact zn (by assumption) | exact le5 (by assumption) (by assumption) | exact Int.ofNat_lt.mpr (by assumption) | exact Nat.le_of_lt (by assumption) | exact Nat.le_trans (by assumption) (by decide) | exact Int.lt_trans (by assumption) (zn (by assumption)) | omega)]
      exact ⟨Int.emod_nonneg _ (by with_reducible first | exact Int.natCast_nonneg _ | exact z63 (by assumption) (by assumption) | exact z65 (by assumption) (by assumption) | exact zn (by assumption) | exact le5 (by assumption) (by assumption) | exact Int.ofNat_lt.mpr (by assumption) | exact Nat.le_of_lt (by assumption) | exact Nat.le_trans (by assumption) (by decide) | omega), Int.emod_lt_of_pos _ (by with_reducible first | exact Int.natCast_nonneg _ | exact z63 (by assumption) (by assumption) | exact z65 (by assumption) (by assumption) | exact zn (by assumption) | exact le5 (by assumption) (by assumption) | exact Int.ofNat_lt.mpr (by assumption) | exact Nat.le_of_lt (by assumption) | exact Nat.le_trans (by assumption) (by decide) | omega)⟩
    · omega
noncomputable def chosen (digits : List Int) (taken : Nat) (ri : List Nat) : Option Nat := ri[(pickOf digits taken ri.length).toNat]?
theorem selOf_mem {β : Type} {sp : Nat → Option β} {b : β} {n : Nat} (h : b ∈ selOf sp n) : ∃ i, i < n ∧ sp i = some b := by
  unfold selOf at h
  obtain ⟨i, hi, e⟩ := List.mem_filterMap.mp h
  exact ⟨i, List.mem_range.mp hi, e⟩
theorem idxOf_lt {p : Row → Bool} {rows : List Row} {k i : Nat} (e : (idxOf p rows)[k]? = some i) : i < rows.length := by
  obtain ⟨j, hj, e2⟩ := selOf_mem (List.mem_of_getElem? e)
  rw [spOf_eq e2]; exact hj
theorem selOf_len {β : Type} {sp : Nat → Option β} {n : Nat} : (selOf sp n).length ≤ n := by
  unfold selOf
  exact Nat.le_trans (List.length_filterMap_le ..) (by first | exact List.mem_append_left _ (.head _) | exact List.mem_append_left _ (.tail _ (.head _)) | exact List.mem_append_left _ (.tail _ (.tail _ (.head _))) | exact List.mem_append_left _ (.tail _ (.tail _ (.tail _ (.head _)))) | exact .head _ | exact .tail _ (.head _) | simp)
section
variable {w : World} {A : Around} {h : Heap} {S dS C dC DG AL : Addr} {gs ds : List Addr} {grs : List Row} {here : Option Nat} {digits : List Int} {taken : Nat}
noncomputable def hereNext (here ch : Option Nat) : Option Nat := match ch with
  | some i => some i
  | none => here
theorem choose_spec {Z : List Addr} (B : Ok (KP w.params) h) (ar : Ar A 3) (SC : Sched w.params (hideAll h Z) S dS C dC DG AL gs ds grs here digits taken) (zin : ∀ a ∈ Z, ∃ o, h.get? a = some o) (sz : gs.length ≤ 1000) (hS : 254 ≤ dS) (hC : 254 ≤ dC) (zd : digits.length ≤ 1000) (zt : taken ≤ 1000000) :
    Do PR w A (call (.ref 144) [.ref S] []) h fun v h' => v = hereVal gs (chosen digits taken (idxOf (stIs "ready") grs)) ∧
      Sched w.params (hideAll h' Z) S dS C dC DG AL gs ds grs (hereNext here (chosen digits taken (idxOf (stIs "ready") grs))) digits (takenOf taken (idxOf (stIs "ready") grs).length : Nat) ∧ Off [dC, dS] h h' := by
  generalize hri : idxOf (stIs "ready") grs = ri
  refine' DoDef (args := ⟨[.ref S], []⟩) (binds := [("self", .ref S)]) (l := [("self", .ref S)]) B ?ho ?hcd ar.room ?hb ?hloc (.cons rfl .nil) ?c2 ?c3 ?c4 ?c5 ?go
  case ho => (first | (with_reducible apply Mine.kp_look; (focus k_is); decide) | (with_reducible apply Mine.kp_ns; (focus k_is); decide) | kernel_rfl)
  case hcd => (first | (with_reducible apply Mine.kp_look; (focus k_is); decide) | (with_reducible apply Mine.kp_ns; (focus k_is); decide) | kernel_rfl)
  case hb => exact fun _ _ => BindsTo.of_eq rfl
  case hloc => exact locs rfl
  case c2 => rfl
  case c3 => rfl
  case c4 => rfl
  case c5 => decide
  case go =>
    intro L h1 b
    refine Do.post fun RR hRR => ?_
    have B1 := B.keeps b.st
    have S0 := SC.keeps hideAll_stays
    have S1 := S0.keeps b.st
    obtain ⟨t1, t2, t3, n, IS⟩ := S1.s
    have hSL : dS ≠ L := let ⟨_, _, _, _, I⟩ := S0.s; b.ne I.d
    have hCL : dC ≠ L := let ⟨_, _, _, _, I⟩ := S0.c; b.ne I.d
    have own0 : ∀ a ∈ L :: Z, (hideAll h Z).get? a = none := fun a ha => by
      revert a ha; refine Mine.allc ?_ fun a ha => ?_
      · exact none_hide b.own
      · exact hideAll_none Z ha
    have rilen : ri.length ≤ 1000 := by
      rw [← hri]; unfold idxOf
      have := selOf_len (sp := spOf (stIs "ready") grs) (n := grs.length)
      have hl := SC.lg
      exact Nat.le_trans this (hl ▸ sz)
    refine Ds.assign (P := fun v h' => h1.StaysIn h' ∧ X2 (fun D ys => C4 (v = .ref D) (h1.get? D = none) (h'.IsList D ys.toArray) (Paired (fun v i => ∃ g, gs[i]? = some g ∧ v = .ref g) ys ri))) (DoMethod0 B1 IS om_ready_ones rfl ke.2.2.1 (Pe.loc b.lo rfl) (hri ▸ ready_spec B1 ar.hh ar.deeper.room S1 sz)) fun v h2 p => ?_
    obtain ⟨k2, D, ys, rfl, nD, hl, ps⟩ := p
    refine ⟨h, _, .ref D, b.keeps k2, rfl, fun h3 b3 s3 => ?_⟩
    have hDL : D ≠ L := fun q => by
      obtain ⟨m, ⟨o, es, ep, e, r⟩, _⟩ := b.lo
      have e' : h1.get? L = some o := e
      exact no_at (Eq.symm q) nD e'
    have l3 : h3.IsList D ys.toArray := let ⟨o, e, r⟩ := hl; ⟨o, s3.extBut _ o hDL e, r⟩
    have B3 := B.keeps b3.st
    have S3 : Sched w.params (hideAll h3 (L :: Z)) S dS C dC DG AL gs ds grs here digits taken := SC.keeps (stays_hideAll (fun c o e => b3.st _ _ (of_hideAll _ e)) own0)
    have up : ∀ {g : Heap}, (hideAll g (L :: Z)).StaysIn (hideAll g Z) := fun {g} c o e => hideAll_get Z (of_hideAll _ e) fun q => hide_no e (.tail _ q)
    have hlen : ys.length = ri.length := ps.length
    refine Ds.ifRet (T := fun c h' => h3.StaysIn h' ∧ c = decide (ri = [])) (Dt.cmp (P := fun a h' => h' = h3 ∧ a = .ref D) (P2 := fun a b' h' => h3.StaysIn h' ∧ X1 (fun e => C3 (a = .ref D) (b' = .ref e) (h'.IsList e #[]))) (Pe.loc (d := .ref D) b3.lo rfl) (fun a h4 p => ?_) fun a b' h4 p => ?_) ?_ ?_
    · revert a h4 p; refine i2 ?_
      refine DoList Args.plain0 fun vs h5 p => ?_
      revert h5 p; refine i1 fun q => ?_
      cases q
      exact ⟨Nat.zero_le _, fun h6 l k6 _ _ e6 => ⟨k6, l, rfl, rfl, e6.isList⟩⟩
    · obtain ⟨k4, e, rfl, rfl, he⟩ := p
      refine (Do.eqEmpty ar.deeper.c0 (IsList_keeps l3 k4) he).mono ?_
      refine i2 ?_
      refine ⟨_, rfl, k4, ?_⟩
      rcases ys with _ | ⟨y, ys⟩ <;> rcases ri with _ | ⟨r, ri⟩ <;> simp_all
    · rintro h4 ⟨k4, hc⟩
      have hn : ri = [] := by first | exact of_decide_eq_true hc.symm | exact of_decide_eq_false hc.symm | simpa using hc.symm
      subst hn
      refine Ds.ret (Pe.none.mono ?_)
      refine i2 ?_
      exact ⟨⟨_, rfl⟩, hRR _ _ ⟨rfl, SC.keeps (stay_hide fun c o e => k4 _ _ (b3.st _ _ e)), Off.mono (Off.nil fun c o e => k4 _ _ (b3.st _ _ e)) (by first | exact List.mem_append_left _ (.head _) | exact List.mem_append_left _ (.tail _ (.head _)) | exact List.mem_append_left _ (.tail _ (.tail _ (.head _))) | exact List.mem_append_left _ (.tail _ (.tail _ (.tail _ (.head _)))) | exact .head _ | exact .tail _ (.head _) | simp)⟩⟩
    · rintro h4 ⟨k4, hc⟩
      have hn : ri ≠ [] := by first | exact of_decide_eq_true hc.symm | exact of_decide_eq_false hc.symm | simpa using hc.symm
      have hpos : 0 < ri.length := List.length_pos_iff.mpr hn
      obtain ⟨p0, p1⟩ := pick_lt (digits := digits) (taken := taken) hpos
      have hk : (pickOf digits taken ri.length).toNat < ri.length := tn p0 p1
      have hch : chosen digits taken ri = some (ri[(pickOf digits taken ri.length).toNat]) := by
        unfold chosen; exact List.getElem?_eq_getElem hk
      generalize hj : ri[(pickOf digits taken ri.length).toNat] = j at hch
      have ej : ri[(pickOf digits taken ri.length).toNat]? = some j := by rw [← hj]; exact List.getElem?_eq_getElem hk
      obtain ⟨v, ev, g, eg, rfl⟩ := paired_get ps _ _ ej
      have jl : j < grs.length := by rw [← hri] at ej; exact idxOf_lt ej
      have b4 := b3.keeps k4
      have B4 := B3.keeps k4
      have S4 := S3.keeps (stay_hide k4)
      have l4 := IsList_keeps l3 k4
      obtain ⟨t1, t2, t3, n, IS4⟩ := S4.s
      obtain ⟨c1, c2, c3, cn, IC4⟩ := S4.c
      obtain ⟨vs, hvs, hints⟩ := S4.dg
      have IS4' := IS4.keeps hideAll_stays
      have IC4' := IC4.keeps hideAll_stays
      have hDC : D ≠ dC := list_ne l4 IC4'.d (by first | exact List.mem_append_left _ (.head _) | exact List.mem_append_left _ (.tail _ (.head _)) | exact List.mem_append_left _ (.tail _ (.tail _ (.head _))) | exact List.mem_append_left _ (.tail _ (.tail _ (.tail _ (.head _)))) | exact .head _ | exact .tail _ (.head _) | simp)
      refine Ds.setAttr (P := fun v h5 => v = .ref g ∧ But dC h4 h5 ∧ X4 (fun t1 t2 tk n => h5.get? dC = some (dictOf (chEs w.params t1 t2 (.ref DG) (.int (takenOf taken ri.length : Nat) tk)) n)))
        (P4 := fun h6 => Lo h6 L [("some", .ref D), ("self", .ref S)] ∧ Sched w.params (hideAll h6 (L :: Z)) S dS C dC DG AL gs ds grs (some j) digits (takenOf taken ri.length : Nat) ∧ ∀ c o, c ≠ L → c ≠ dS → c ≠ dC → h4.get? c = some o → h6.get? c = some o)
        (Do.item (P := fun a h' => h' = h4 ∧ a = .ref D) (P2 := fun a b' h5 => a = .ref D ∧ (∃ t, b' = .int (pickOf digits taken ri.length) t) ∧ But dC h4 h5 ∧ X4 (fun t1 t2 tk n => h5.get? dC = some (dictOf (chEs w.params t1 t2 (.ref DG) (.int (takenOf taken ri.length : Nat) tk)) n))) (Pe.loc (d := .ref D) b4.lo rfl) (fun a h5 p => ?_) (fun a b' h5 p => ?_)) (fun v h5 p => ?_) ?_
      · revert a h5 p; refine i2 ?_
        refine DoMethodP B4 IC4' om_pick rfl ke.2.2.2.2.2.2.2.2.2.2 (Pe.attr (d := .ref C) B4 IS4' oa_157_choices rfl rfl (Pe.loc b4.lo rfl)) (Args.plain1 (Pe.len B4 gl_len l4 (by first | with_reducible exact zlen (by assumption) | with_reducible exact zlenE (by assumption) (by assumption) | with_reducible exact zvs (by assumption) | with_reducible exact zvsE (by assumption) (by assumption) | (simp; omega)) (Pe.loc b4.lo rfl)) Args.plain0) fun vs' h6 p => ?_
        revert h6 p; refine i1 fun p => ?_
        obtain ⟨v, rfl, t, rfl⟩ := p.one
        refine ⟨B4, ?_⟩
        have hz : (ys.toArray.size : Int) = (ri.length : Nat) := by simp [hlen]
        rw [hz]
        refine (pick_spec (many := ri.length) B4 ar.deeper.less hC IC4' (IsList_keeps hvs hideAll_stays) hints zd zt (by with_reducible first | exact Int.natCast_nonneg _ | exact z63 (by assumption) (by assumption) | exact z65 (by assumption) (by assumption) | exact zn (by assumption) | exact le5 (by assumption) (by assumption) | exact Int.ofNat_lt.mpr (by assumption) | exact Nat.le_of_lt (by assumption) | exact Nat.le_trans (by assumption) (by decide) | exact Int.lt_trans (by assumption) (zn (by assumption)) | omega)).mono ?_
        rintro v h7 ⟨ht, kb, hd'⟩
        exact ⟨rfl, ht, kb, hd'⟩
      · obtain ⟨rfl, ⟨t, rfl⟩, kb, hd'⟩ := p
        refine (Do.listItem (kb.list hDC l4) p0 (by with_reducible first | exact Int.natCast_nonneg _ | exact z63 (by assumption) (by assumption) | exact z65 (by assumption) (by assumption) | exact zn (by assumption) | exact le5 (by assumption) (by assumption) | exact Int.ofNat_lt.mpr (by assumption) | exact Nat.le_of_lt (by assumption) | exact Nat.le_trans (by assumption) (by decide) | exact Int.lt_trans (by assumption) (zn (by assumption)) | omega) (v := .ref g) (by first | exact gi ev | exact gv ev | simpa using ev)).mono ?_
        refine i2 ?_
        exact ⟨rfl, kb, hd'⟩
      · obtain ⟨rfl, kb, hd'⟩ := p
        have kz : But dC (hideAll h4 (L :: Z)) (hideAll h5 (L :: Z)) := but_hide kb
        have S5 := S4.goTaken (taken' := (takenOf taken ri.length : Nat)) kz (by obtain ⟨u1, u2, u3, un, e⟩ := hd'; exact ⟨u1, u2, u3, un, at_hide e IC4.d⟩)
        have lo5 : Lo h5 L _ := b4.lo.at fun o e => kb _ _ (Ne.symm hCL) e
        have B5 := B4.but kb hC
        obtain ⟨s1, s2, s3, sn, IS5⟩ := S5.s
        have IS5' := IS5.keeps hideAll_stays
        refine (Pe.loc (d := .ref S) lo5 rfl).mono ?_
        refine i2 ?_
        obtain ⟨m, hn5, hq⟩ := lo5
        refine (DoSetAttr B5 IS5' hn5 hSL os_157_here rfl (by show 3 ≤ 100; decide) (v := .ref g)).mono ?_
        rintro u h7 ⟨n7, k7, t7, e7⟩
        have bu7 : But dS (hideAll h5 (L :: Z)) (hideAll h7 (L :: Z)) := fun c o hc e => hideAll_get _ (k7 c o (fun q => hide_no e (q ▸ .head _)) hc (of_hideAll _ e)) (hide_no e)
        refine ⟨⟨m, n7, hq⟩, S5.goHere (here' := some j) bu7 ⟨s1, s2, s3, sn, ?_⟩ (fun i e => by cases e; exact jl), fun c o h1 h2 h3 e => k7 c o h1 h2 (kb c o h3 e)⟩
        rw [hereVal_some eg]
        exact at_hide e7 IS5.d
      · rintro h6 ⟨lo6, S6, k6⟩
        have B6 : Ok (KP w.params) h6 := B.low fun c o hc e => k6 c o (b.ne e) (low_ne hc hS) (low_ne hc hC) (k4 _ _ (b3.st _ _ e))
        obtain ⟨s1, s2, s3, sn, IS6⟩ := S6.s
        rw [hereVal_some eg] at IS6
        refine Ds.ret ((Pe.attr (d := .ref g) B6 (IS6.keeps hideAll_stays) oa_157_here rfl rfl (Pe.loc lo6 rfl)).mono ?_)
        refine i2 ?_
        refine hRR _ _ ⟨?_, ?_, fun c o e hn => k6 c o (b.ne e) (fun q => hn (by first | exact List.mem_cons.mpr (.inl q) | exact List.mem_cons_of_mem _ (List.mem_singleton.mpr q) | simp [q])) (fun q => hn (by first | exact List.mem_cons.mpr (.inl q) | exact List.mem_cons_of_mem _ (List.mem_singleton.mpr q) | simp [q])) (k4 _ _ (b3.st _ _ e))⟩
        · rw [hch, hereVal_some eg]; rfl
        · rw [hch]; exact S6.keeps up
end
end Mine
end

-- Rows
section
open PySem PySem.W PySem.Calls PyProof.Rows PySem.Spec PySem.SeqAt
set_option tactic.hygienic false
namespace Mine
-- data
noncomputable def Lay (n : Nat) (d : PyData) : Prop := d.canLay0 = true ∧ d.depth ≤ n
theorem Lay.all {n : Nat} : ∀ {xs : List PyData}, (∀ x ∈ xs, Lay n x) → PyData.canLayAll0 xs = true ∧ PyData.depthAll xs ≤ n
  | [], _ => ⟨by simp [PyData.canLayAll0], by simp [PyData.depthAll]⟩
  | x :: xs, h => by
    obtain ⟨a, b⟩ := Lay.all (xs := xs) fun y hy => h y (.tail _ hy)
    obtain ⟨c, d⟩ := h x (.head _)
    exact ⟨by simp [PyData.canLayAll0, a, c], by simp only [PyData.depthAll]; exact Nat.max_le.mpr ⟨d, b⟩⟩
theorem Lay.list {n : Nat} {xs : List PyData} (h : ∀ x ∈ xs, Lay n x) : Lay (n + 1) (.list xs) := let ⟨a, b⟩ := Lay.all h; ⟨by simp only [PyData.canLay0]; exact a, by simp only [PyData.depth]; exact Nat.succ_le_succ b⟩
theorem Lay.tuple {n : Nat} {xs : List PyData} (h : ∀ x ∈ xs, Lay n x) : Lay (n + 1) (.tuple xs) := let ⟨a, b⟩ := Lay.all h; ⟨by simp only [PyData.canLay0]; exact a, by simp only [PyData.depth]; exact Nat.succ_le_succ b⟩
theorem Lay.int {n : Nat} {i : Int} : Lay n (.int i) := ⟨by simp [PyData.canLay0], by simp [PyData.depth]⟩
theorem Lay.none {n : Nat} : Lay n .none := ⟨by simp [PyData.canLay0], by simp [PyData.depth]⟩
theorem Lay.str {n : Nat} {x : Str} (h : PyData.strOk x = true) : Lay n (.str x) := ⟨by simp [PyData.canLay0, h], by simp [PyData.depth]⟩
theorem Lay.wt {o : Option Int} : Lay 1 (wtD o) := by
  cases o with
  | none => exact Lay.none
  | some k =>
    refine Lay.tuple fun x hx => ?_
    revert x hx; refine Mine.allc ?_ fun x hx => ?_
    · exact Lay.str (by decide +kernel)
    · revert x hx; refine Mine.all1 ?_; exact Lay.int
theorem Lay.an {n : Nat} {o : Option Int} : Lay n (anD o) := by cases o; exact Lay.none; exact Lay.int
theorem Lay.row {r : Row} (h : PyData.strOk r.st = true) : Lay 2 (rowD r) := Lay.list fun x hx => by
  revert x hx; refine Mine.allc ?_ fun x hx => ?_
  · exact Lay.str h
  · revert x hx; refine Mine.allc ?_ fun x hx => ?_
    · exact Lay.wt
    · revert x hx; refine Mine.all1 ?_; exact Lay.an
theorem Lay.shaped {n : Nat} {d : PyData} (x : Lay n d) (h : n ≤ 64 := by omega) : shaped d = true := by
  show (d.canLay0 && decide (d.depth ≤ 64)) = true
  rw [x.1, decide_eq_true (Nat.le_trans x.2 h)]; rfl
section
variable {PR : Program} {w : World} {A : Around} {env : Env} {h : Heap} {K : Frag}
-- two that read the same are not unequal
theorem Do.neSame {a b : Value} {d : PyData} {as bs : List Addr} {n : Nat} (hu : A.units + 64 < cLine) (ra : Reads h a d as) (rb : Reads h b d bs) (x : Lay n d) (hn : n ≤ 64 := by omega) : Do PR w A (compareOp .NotEq a b) h fun v h' => h' = h ∧ v = .bool false := fun s Q E e q => by
  subst e
  exact ne_dataH ra rb (x.shaped hn) (x.shaped hn) hu (by rw [eqv_refl d x.1]; exact Do.now rfl q ⟨rfl, rfl⟩)
-- enumerate(list) as what is walked
theorem DoEnum {x : Expr} {np pos : Pos} {l : Addr} {items : Array Value} (B : Ok K h) (e : nsIn K mainGlobals "enumerate" = some .none) (hl : h.IsList l items) (d : Pe PR w A x env h (.ref l)) (hg : env.globals = mainGlobals := by rfl) (hb : env.builtins = builtinsNs := by rfl) (hk : env.scope.kind = .function := by rfl) (hx : env.kindOf "enumerate" = some .globalImplicit := by rfl)
    (he : starEach [x] env = (false, eval x env) :: starEach [] env := by rfl) : Do PR w A (eval (.Call (.Name "enumerate" np) [x] [] pos) env) h fun u h1 => X2 (fun E it => C5 (u = .ref E) (IsEnum h1 E it 0 .none) (h1.IsListIter it l 0) (h.StaysIn h1) (C3 (E ≠ it) (h.get? E = none) (h.get? it = none))) :=
  Do.callName (Do.builtin B e (v := .type "enumerate") (by boot_fast) (by decide) hg hb hk hx) fun u h1 p => by
    revert u h1 p; refine i2 ?_
    refine DoCallWith (K := K) Callable.type (Args.plain1 (he := he) d Args.plain0) (fun vs h2 p => ?_) (he := he)
    revert h2 p; refine i1 fun p => ?_
    obtain ⟨v, rfl, rfl⟩ := p.one
    refine ⟨B, fun s Q E e q => ?_⟩
    subst e
    exact call_enumerate_list hl fun h' a b c k => q _ h' s.toks ⟨_, _, rfl, a, b, k, Nat.succ_ne_self _, fresh_size (Nat.le_succ _), fresh_size (Nat.le_refl _)⟩
theorem quiet_rows {β : Type} {scope : Scope} {cl : List (Str × Addr)} {x y : Str} {px py tp : Pos} {kk : Nat} {ifs : List Expr} {elt : Expr} {Z : List Addr} {base h1 : Heap} {E it R : Addr} {rs : List Addr} {rows : List Row} {sp : Nat → Option β} {F : Heap → Value → β → Prop} (hh : A.handled = none) (RW : RowsAt (hideAll base Z) R rs rows)
    (he : IsEnum h1 E it 0 .none) (hi : h1.IsListIter it R 0) (k1 : base.StaysIn h1) (hei : E ≠ it) (nE : base.get? E = none) (ni : base.get? it = none)
    (zin : ∀ a ∈ Z, ∃ o, base.get? a = some o) (hx : scope.names.lookup x = some .local) (hy : scope.names.lookup y = some .local) (hkind : scope.kind = .function) (sz : rs.length ≤ sizeLine) (mono : ∀ g g' y b, F g y b → g.StaysIn g' → F g' y b)
    (turn : ∀ X C (i : Nat) g a r, rs[i]? = some a → rows[i]? = some r → (hideAll base Z).StaysIn (hideAll g (Z ++ X)) → (∀ a ∈ Z ++ X, ∃ o, g.get? a = some o) → Lo g C [(y, .ref a), (x, .int i)] → RowAt (hideAll g (Z ++ X)) a r →
      Do PR w A (testsOf ifs (compEnvC scope cl C env)) g fun ok g₁ => g.StaysIn g₁ ∧ ok = (sp i).isSome ∧ ∀ b, sp i = some b → Do PR w A (eval elt (compEnvC scope cl C env)) g₁ fun y g₂ => g₁.StaysIn g₂ ∧ F (hideAll g₂ (Z ++ X)) y b) :
    Quiet PR w A env scope cl (.Tuple [.Name x px, .Name y py] kk tp) ifs elt (.ref E) Z base h1 rs.length sp F [R] (fun i v g => X3 (fun T t z => C3 (v = .ref T) ((rs.map Value.ref).toArray[i]? = some z) (g.IsTuple T #[.int i t, z]))) (fun i => [(y, .ref (rs.getD i 0)), (x, .int i)]) where
  it := by
    have := iters_enum (PR := PR) (w := w) (A := A) (elts := [.Name x px, .Name y py]) (kk := kk) (tp := tp) hh he hi (IsList_keeps RW.rl hideAll_stays) k1 hei nE ni
    simpa using this
  sz := sz
  ol := fun a ha => by
    rw [List.mem_singleton.mp ha]
    obtain ⟨o, e, _⟩ := IsList_keeps RW.rl hideAll_stays
    exact ⟨o, e⟩
  asg := fun C i v g m hi hv hn => by
    obtain ⟨T, t, z, rfl, hz, ht⟩ := hv
    refine asg_pair hh hx hy hkind ht ⟨t, rfl⟩ ?_ hn
    have : rs[i]? = some rs[i] := List.getElem?_eq_getElem hi
    simp [this] at hz
    show z = _
    rw [← hz]; simp [hi]
  mono := mono
  zin := zin
  turn := fun X C i g hi k ex lo => by
    have e1 : rs[i]? = some rs[i] := List.getElem?_eq_getElem hi
    have h3 : i < rows.length := by rw [← RW.len]; exact hi
    have e3 : rows[i]? = some rows[i] := List.getElem?_eq_getElem h3
    have G := RW.ro i _ _ e1 e3
    refine turn X C i g _ _ e1 e3 k ex ?_ ?_
    · have : rs.getD i 0 = rs[i] := by simp [hi]
      rw [this] at lo; exact lo
    · obtain ⟨ts, wv, av, hl, hw, ha⟩ := G
      exact ⟨ts, wv, av, IsList_keeps hl k, hw.off (.ofStays k), ha⟩
end
theorem RowAt.keeps {h h' : Heap} {a : Addr} {r : Row} (x : RowAt h a r) (k : h.StaysIn h') : RowAt h' a r := let ⟨ts, wv, av, hl, hw, ha⟩ := x; ⟨ts, wv, av, IsList_keeps hl k, hw.off (.ofStays k), ha⟩
theorem RowsAt.keeps {h h' : Heap} {R : Addr} {rs : List Addr} {rows : List Row} (x : RowsAt h R rs rows) (k : h.StaysIn h') : RowsAt h' R rs rows := ⟨x.rlp.at fun o e => k _ o e, x.len, fun i a r e1 e2 => (x.ro i a r e1 e2).keeps k, x.nd⟩
-- the numbers of the ready rows, as the law reads them
noncomputable def NumIs (h : Heap) (v : Value) (i : Nat) : Prop := ∃ t, v = .int i t
theorem nums_ints {h : Heap} {ys : List Value} {ns : List Nat} (p : Paired (NumIs h) ys ns) : IntsAre ys (ns.map Int.ofNat) := by
  induction p with
  | nil => exact .nil
  | cons x t ih =>
    obtain ⟨t, rfl⟩ := x
    exact .cons _ _ ih
end Mine
end

-- Chosen
section
open PySem PySem.W PySem.Calls PyProof.Rows PySem.Spec PySem.SeqAt
set_option tactic.hygienic false
namespace Mine
section
variable {w : World} {A : Around} {h : Heap} {R DG : Addr} {rs : List Addr} {rows : List Row} {digits : List Int} {vs : List Value} {taken : Nat} {tk : Tok}
theorem Pe.ifExp {PR : Program} {env : Env} {test body orelse : Expr} {pos : Pos} {c : Bool} {d : D} (t : Pt PR w A test env h c) (yes : c = true → Pe PR w A body env h d) (no : c = false → Pe PR w A orelse env h d) : Pe PR w A (.IfExp test body orelse pos) env h d :=
  Do.ifExp (P := fun b h' => h' = h ∧ b = c) t (fun h1 p => by rw [p.1]; exact yes p.2.symm) (fun h1 p => by rw [p.1]; exact no p.2.symm)
theorem Pe.to {PR : Program} {env : Env} {x : Expr} {d d' : D} (p : Pe PR w A x env h d) (e : d = d') : Pe PR w A x env h d' := e ▸ p
theorem chosen_spec (B : Ok (KP w.params) h) (ar : Ar A 1) (RW : RowsAt h R rs rows) (hl : h.IsList DG vs.toArray) (hv : IntsAre vs digits) (sz : rs.length ≤ 1000) (zd : digits.length ≤ 1000) (zt : taken ≤ 1000000) :
    Do PR w A (call (.ref 227) [.ref R, .ref DG, .int taken tk] []) h fun v h' => h.StaysIn h' ∧ X4 (fun T n gv tt => C3 (v = .ref T) (h'.get? T = some (tupObj #[gv, .int (takenOf taken (idxOf (stIs "ready") rows).length : Nat) tt] n)) (AnIs gv ((chosen digits taken (idxOf (stIs "ready") rows)).map Int.ofNat))) := by
  have rilen : (idxOf (stIs "ready") rows).length ≤ 1000 := by
    have := selOf_len (sp := spOf (stIs "ready") rows) (n := rows.length)
    have h2 := RW.len
    unfold idxOf
    omega
  refine' DoDef (args := ⟨[.ref R, .ref DG, .int taken tk], []⟩) (binds := [("rows", .ref R), ("digits", .ref DG), ("taken", .int taken tk)]) (l := [("taken", .int taken), ("digits", .ref DG), ("rows", .ref R)]) B ?ho ?hcd ar.room ?hb ?hloc (.cons ⟨_, rfl⟩ (.cons rfl (.cons rfl .nil))) ?c2 ?c3 ?c4 ?c5 ?go
  case ho => (first | (with_reducible apply Mine.kp_look; (focus k_is); decide) | (with_reducible apply Mine.kp_ns; (focus k_is); decide) | kernel_rfl)
  case hcd => (first | (with_reducible apply Mine.kp_look; (focus k_is); decide) | (with_reducible apply Mine.kp_ns; (focus k_is); decide) | kernel_rfl)
  case hb => exact fun _ _ => BindsTo.of_eq rfl
  case hloc => exact locs rfl
  case c2 => rfl
  case c3 => rfl
  case c4 => rfl
  case c5 => decide
  case go =>
    intro L h1 b
    refine Do.post fun RR hRR => ?_
    have B1 := B.keeps b.st
    have R1 := RW.keeps b.st
    have Rz : RowsAt (hideAll h1 [L]) R rs rows := RW.keeps b.onto
    refine DsCompQ (DoEnum B1 gl_enumerate R1.rl (Pe.loc b.lo rfl)) (closureFor_none (by decide)) (by decide) (by rfl) (by decide) ?_
    rintro u h2 ⟨E, it, rfl, he, hi, k2, hei, nE, ni⟩
    refine ⟨Nat, h1, _, spOf (stIs "ready") rows, NumIs, _, _, _, quiet_rows (Z := [L]) ar.hh Rz he hi k2 hei nE ni ?_ (by rfl) (by rfl) (by rfl) (by first | with_reducible exact sl (by assumption) | with_reducible exact slm (by assumption) | (unfold sizeLine; omega)) (fun _ _ _ _ x _ => x) ?_, _, b.lo, ?_⟩
    · intro a ha
      rw [List.mem_singleton.mp ha]
      obtain ⟨m, ⟨o, es, ep, e, r⟩, _⟩ := b.lo; exact ⟨o, e⟩
    · intro X C i g a r e1 e3 k ex lo G
      obtain ⟨ts, wv, av, hl', hw, ha⟩ := G
      have l' := IsList_keeps hl' hideAll_stays
      refine Dtests1 ((Pt.cmp (a := .str r.st) (b := .str "ready") Cmp.eqS (Pe.item l' (by decide) (by decide) rfl ⟨_, rfl⟩ (Pe.loc lo rfl) Pe.int) Pe.str).mono ?_)
      refine i2 ?_
      refine ⟨fun _ _ e => e, (spOf_is (p := stIs "ready") e3).symm, fun b hb => ?_⟩
      have := spOf_eq hb
      subst this
      refine (Pe.loc lo rfl).mono ?_
      refine i1v fun y hy => ?_
      exact ⟨fun _ _ e => e, hy⟩
    · intro Y h3 g' ys b3 k3 l3 ps
      have B3 : Ok (KP w.params) h3 := B.keeps fun c o e => b3.st _ _ (k3 _ _ (b.onto _ _ e))
      have hRI := nums_ints (ps)
      rw [RW.len] at hRI ps
      change Paired _ ys (idxOf (stIs "ready") rows) at ps
      change IntsAre ys ((idxOf (stIs "ready") rows).map Int.ofNat) at hRI
      generalize idxOf (stIs "ready") rows = ri at ps hRI rilen hRR ⊢
      have hlen : ys.length = ri.length := ps.length
      have l3' := IsList_keeps l3 b3.st
      have stay3 : h.StaysIn h3 := fun c o e => b3.st _ _ (k3 _ _ (b.onto _ _ e))
      have hz : (ys.toArray.size : Int) = (ri.length : Int) := by simp [hlen]
      have l0 := IsList_keeps hl stay3
      have lenV := ints_len hv
      refine Ds.ifRet (Pt.cmp Cmp.lt (Pe.len B3 gl_len l3' (by first | with_reducible exact zlen (by assumption) | with_reducible exact zlenE (by assumption) (by assumption) | with_reducible exact zvs (by assumption) | with_reducible exact zvsE (by assumption) (by assumption) | (simp; omega)) (Pe.loc (d := .ref Y) b3.lo rfl)) Pe.int) ?_ ?_
      · refine i1 fun hc => ?_
        have hm' : (ys.toArray.size : Int) < 2 := by first | exact of_decide_eq_true hc.symm | exact of_decide_eq_false hc.symm | simpa using hc.symm
        have hm : ri.length ≤ 1 := lt2 hz hm'
        have ht : takenOf taken ri.length = taken := by unfold takenOf; rw [if_pos hm]
        have hp : pickOf digits taken ri.length = 0 := by unfold pickOf; rw [if_pos hm]
        have hch : chosen digits taken ri = ri[0]? := by unfold chosen; rw [hp]; rfl
        refine Ds.ret (DoTuple (P := fun vs h' => h3.StaysIn h' ∧ X2 (fun gv t => vs = [gv, .int taken t] ∧ AnIs gv (ri[0]?.map Int.ofNat))) (Args.cons (P := fun v h' => h3.StaysIn h' ∧ AnIs v (ri[0]?.map Int.ofNat)) (Do.ifExp (P := fun c h' => h3.StaysIn h' ∧ c = !decide (ri = [])) (Dt.cmp (P := fun a h' => h' = h3 ∧ a = .ref Y) (P2 := fun a b' h' => h3.StaysIn h' ∧ X1 (fun e => C3 (a = .ref Y) (b' = .ref e) (h'.IsList e #[]))) (Pe.loc (d := .ref Y) b3.lo rfl) (fun a h5 p => ?_) fun a b' h5 p => ?_) ?_ ?_) fun v h5 p => ?_) fun vs h5 p => ?_)
        · revert a h5 p; refine i2 ?_
          refine DoList Args.plain0 fun vs h6 p => ?_
          revert h6 p; refine i1 fun q => ?_
          cases q
          exact ⟨Nat.zero_le _, fun h7 l k6 _ _ e6 => ⟨k6, l, rfl, rfl, e6.isList⟩⟩
        · obtain ⟨k4, e, rfl, rfl, he⟩ := p
          refine (Do.neEmpty ar.deeper.c0 (IsList_keeps l3' k4) he).mono ?_
          refine i2 ?_
          refine ⟨_, rfl, k4, ?_⟩
          rcases ys with _ | ⟨y, ys⟩ <;> rcases ri with _ | ⟨r, ri⟩ <;> simp_all
        · rintro h5 ⟨k5, hc⟩
          have hn : ri ≠ [] := by first | exact of_decide_eq_true hc.symm | exact of_decide_eq_false hc.symm | simpa using hc.symm
          have hpos : 0 < ri.length := List.length_pos_iff.mpr hn
          obtain ⟨v, ev, t, rfl⟩ := paired_get ps 0 _ (List.getElem?_eq_getElem hpos)
          refine (Pe.item (d := .int (ri[0] : Nat)) (IsList_keeps l3' k5) (i := 0) (by decide) (by decide) (by first | exact gi ev | exact gv ev | simpa using ev) ⟨t, rfl⟩ (Pe.loc (b3.lo.keeps k5) rfl) Pe.int).mono ?_
          refine i2t fun t => ?_
          refine ⟨k5, ?_⟩
          rw [List.getElem?_eq_getElem hpos]
          exact ⟨t, rfl⟩
        · rintro h5 ⟨k5, hc⟩
          have hn : ri = [] := by first | exact of_decide_eq_true hc.symm | exact of_decide_eq_false hc.symm | simpa using hc.symm
          refine Pe.none.mono ?_
          refine i2 ?_
          exact ⟨k5, by rw [hn]; rfl⟩
        · obtain ⟨k5, hv'⟩ := p
          refine Args.cons (Pe.loc (d := .int taken) (b3.lo.keeps k5) rfl) fun u h6 p => Args.nil ?_
          revert u h6 p; refine i2t fun t => ?_
          exact ⟨k5, v, t, rfl, hv'⟩
        · obtain ⟨k5, gv, t, rfl, hv'⟩ := p
          refine ⟨by show 2 ≤ sizeLine; decide, fun h6 T n k6 _ _ eT => ⟨⟨_, rfl⟩, hRR _ _ ⟨fun c o e => k6 _ _ (k5 _ _ (stay3 _ _ e)), T, n, gv, t, rfl, ?_, ?_⟩⟩⟩
          · rw [ht]; exact eT
          · rw [hch]; exact hv'
      · refine i1 fun hc => ?_
        have hm' : ¬ (ys.toArray.size : Int) < 2 := by first | exact of_decide_eq_true hc.symm | exact of_decide_eq_false hc.symm | simpa using hc.symm
        have hm : ¬ ri.length ≤ 1 := nlt2 hz hm'
        have ht : takenOf taken ri.length = taken + 1 := by unfold takenOf; rw [if_neg hm]
        obtain ⟨p0, p1⟩ := pick_lt (digits := digits) (taken := taken) (many := ri.length) (Nat.lt_trans Nat.zero_lt_one (Nat.lt_of_not_le hm))
        have hk : (pickOf digits taken ri.length).toNat < ri.length := tn p0 p1
        have hch : chosen digits taken ri = some (ri[(pickOf digits taken ri.length).toNat]) := by unfold chosen; exact List.getElem?_eq_getElem hk
        obtain ⟨v, ev, t, rfl⟩ := paired_get ps _ _ (List.getElem?_eq_getElem hk)
        refine Ds.ret (DoTuple (P := fun vs h' => h' = h3 ∧ ∃ t t2, vs = [.int (ri[(pickOf digits taken ri.length).toNat] : Nat) t, .int ((taken : Int) + 1) t2]) (Args.cons (Pe.item (d := .int (ri[(pickOf digits taken ri.length).toNat] : Nat)) l3' (i := pickOf digits taken ri.length) p0 (by with_reducible first | exact Int.natCast_nonneg _ | exact z63 (by assumption) (by assumption) | exact z65 (by assumption) (by assumption) | exact zn (by assumption) | exact le5 (by assumption) (by assumption) | exact Int.ofNat_lt.mpr (by assumption) | exact Nat.le_of_lt (by assumption) | exact Nat.le_trans (by assumption) (by decide) | exact Int.lt_trans (by assumption) (zn (by assumption)) | omega) (by first | exact gi ev | exact gv ev | simpa using ev) ⟨t, rfl⟩ (Pe.loc (d := .ref Y) b3.lo rfl)
          (Pe.ifExp (Pt.cmp Cmp.lt (Pe.loc (d := .int taken) b3.lo rfl) (Pe.len B3 gl_len l0 (by first | with_reducible exact zlen (by assumption) | with_reducible exact zlenE (by assumption) (by assumption) | with_reducible exact zvs (by assumption) | with_reducible exact zvsE (by assumption) (by assumption) | (simp; omega)) (Pe.loc (d := .ref DG) b3.lo rfl))) (fun hc => ?_) (fun hc => ?_))) fun v h5 p => ?_) fun vs h5 p => ?_)
        · have hlt : taken < digits.length := by
            have : (taken : Int) < (vs.length : Int) := by first | exact of_decide_eq_true hc | exact of_decide_eq_false hc | simpa using hc
            omega
          obtain ⟨td, ed⟩ := ints_get hv taken _ (List.getElem?_eq_getElem hlt)
          refine Pe.to (Pe.mod (a := digits[taken]) (b := ys.toArray.size) (by with_reducible first | exact Int.natCast_nonneg _ | exact z63 (by assumption) (by assumption) | exact z65 (by assumption) (by assumption) | exact zn (by assumption) | exact le5 (by assumption) (by assumption) | exact Int.ofNat_lt.mpr (by assumption) | exact Nat.le_of_lt (by assumption) | exact Nat.le_trans (by assumption) (by decide) | exact Int.lt_trans (by assumption) (zn (by assumption)) | omega) (Pe.item l0 (i := taken) (by with_reducible first | exact Int.natCast_nonneg _ | exact z63 (by assumption) (by assumption) | exact z65 (by assumption) (by assumption) | exact zn (by assumption) | exact le5 (by assumption) (by assumption) | exact Int.ofNat_lt.mpr (by assumption) | exact Nat.le_of_lt (by assumption) | exact Nat.le_trans (by assumption) (by decide) | exact Int.lt_trans (by assumption) (zn (by assumption)) | omega) (by with_reducible first | exact Int.natCast_nonneg _ | exact z63 (by assumption) (by assumption) | exact z65 (by assumption) (by assumption) | exact zn (by assumption) | exact le5 (by assumption) (by assumption) | exact Int.ofNat_lt.mpr (by assumption) | exact Nat.le_of_lt (by assumption) | exact Nat.le_trans (by assumption) (by decide) | exact Int.lt_trans (by assumption) (zn (by assumption)) | omega) (by first | exact gi ed | exact gv ed | simpa using ed) ⟨_, rfl⟩ (Pe.loc (d := .ref DG) b3.lo rfl) (Pe.loc (d := .int taken) b3.lo rfl)) (Pe.len B3 gl_len l3' (by first | with_reducible exact zlen (by assumption) | with_reducible exact zlenE (by assumption) (by assumption) | with_reducible exact zvs (by assumption) | with_reducible exact zvsE (by assumption) (by assumption) | (simp; omega)) (Pe.loc (d := .ref Y) b3.lo rfl))) ?_
          unfold pickOf
          rw [if_neg hm, List.getElem?_eq_getElem hlt, hz]
        · have hlt : ¬ taken < digits.length := by
            have : ¬ (taken : Int) < (vs.length : Int) := by first | exact of_decide_eq_true hc | exact of_decide_eq_false hc | simpa using hc
            omega
          refine Pe.to Pe.int ?_
          unfold pickOf
          rw [if_neg hm, List.getElem?_eq_none (by with_reducible first | exact Int.natCast_nonneg _ | exact z63 (by assumption) (by assumption) | exact z65 (by assumption) (by assumption) | exact zn (by assumption) | exact le5 (by assumption) (by assumption) | exact Int.ofNat_lt.mpr (by assumption) | exact Nat.le_of_lt (by assumption) | exact Nat.le_trans (by assumption) (by decide) | exact Int.lt_trans (by assumption) (zn (by assumption)) | omega)]
        · revert v h5 p; refine i2t fun t => ?_
          refine Args.cons (Pe.add (Pe.loc (d := .int taken) b3.lo rfl) Pe.int) fun u h6 p => Args.nil ?_
          revert u h6 p; refine i2t fun t2 => ?_
          exact ⟨rfl, t, t2, rfl⟩
        · obtain ⟨rfl, t, t2, rfl⟩ := p
          refine ⟨by show 2 ≤ sizeLine; decide, fun h6 T n k6 _ _ eT => hRR _ _ ⟨fun c o e => k6 _ _ (stay3 _ _ e), T, n, _, t2, rfl, by rw [ht]; exact eT, ?_⟩⟩
          rw [hch]
          exact ⟨t, rfl⟩
end
end Mine
end

-- Stands
section
open PySem PySem.W PySem.Calls PyProof.Rows PySem.Spec PySem.SeqAt
set_option tactic.hygienic false
namespace Mine
section
variable {PR : Program} {w : World} {A : Around} {env : Env} {h : Heap} {K : Frag}
theorem DoRange {x : Expr} {np pos : Pos} {n : Int} (B : Ok K h) (e : nsIn K mainGlobals "range" = some .none) (d : Pe PR w A x env h (.int n)) (hg : env.globals = mainGlobals := by rfl) (hb : env.builtins = builtinsNs := by rfl) (hk : env.scope.kind = .function := by rfl) (hx : env.kindOf "range" = some .globalImplicit := by rfl)
    (he : starEach [x] env = (false, eval x env) :: starEach [] env := by rfl) : Do PR w A (eval (.Call (.Name "range" np) [x] [] pos) env) h fun u h1 => h.StaysIn h1 ∧ X4 (fun r t u' v => C3 (u = .ref r) (IsRange h1 r 0 n 1 t u' v) (h.get? r = none)) :=
  Do.callName (Do.builtin B e (v := .type "range") (by boot_fast) (by decide) hg hb hk hx) fun u h1 p => by
    revert u h1 p; refine i2 ?_
    refine DoCallWith (K := K) Callable.type (Args.plain1 (he := he) d Args.plain0) (fun vs h2 p => ?_) (he := he)
    revert h2 p; refine i1 fun p => ?_
    obtain ⟨v, rfl, t, rfl⟩ := p.one
    refine ⟨B, fun s Q E e q => ?_⟩
    subst e
    exact call_range_1 (q _ _ _ ⟨push_stays, _, _, _, _, rfl, Heap.get?_push_size _ rfl, fresh_size (Nat.le_refl _)⟩)
theorem range_size {n : Nat} : Builtin.Range.rangeSize 0 n 1 = (n : Int) := by rw [rangeSize_one]; split <;> omega
theorem nums_of_items {P : Nat → Value → Prop} (k : ∀ i v, P i v → ∃ t, v = .int (i : Int) t) : ∀ (n : Nat) (l : List Value), l.length = n → (∀ j v, l[j]? = some v → P j v) → Paired (NumIs {}) l (List.range n) := by
  intro n
  induction n with
  | zero => intro l hl _; have : l = [] := List.eq_nil_of_length_eq_zero hl; subst this; exact .nil
  | succ n ih =>
    intro l hl hp
    have e : l = l.take n ++ [l[n]] := by
      rw [List.take_append_getElem]; simp [← hl]
    rw [e, List.range_succ]
    refine Paired.snoc (ih _ (by rw [List.length_take, hl]; exact Nat.min_eq_left (Nat.le_succ n)) fun j v hj => hp j v ?_) ?_
    · have hjn : j < n := by
        have := (List.getElem?_eq_some_iff.mp hj).1
        rw [List.length_take] at this; exact Nat.lt_of_lt_of_le this (Nat.min_le_left _ _)
      rw [List.getElem?_take_of_lt hjn] at hj; exact hj
    · obtain ⟨t, e⟩ := k n l[n] (hp n _ (List.getElem?_eq_getElem (hl ▸ Nat.lt_succ_self n)))
      exact ⟨t, e⟩
-- list(range(n))
theorem DoListRange {x : Expr} {np pos np2 pos2 : Pos} {n : Nat} (B : Ok K h) (hh : A.handled = none) (sz : n ≤ 1000) (e : nsIn K mainGlobals "range" = some .none) (el : nsIn K mainGlobals "list" = some .none) (d : Pe PR w A x env h (.int n)) (hg : env.globals = mainGlobals := by rfl) (hb : env.builtins = builtinsNs := by rfl) (hk : env.scope.kind = .function := by rfl) (hx : env.kindOf "range" = some .globalImplicit := by rfl) (hx2 : env.kindOf "list" = some .globalImplicit := by rfl)
    (he : starEach [x] env = (false, eval x env) :: starEach [] env := by rfl) (he2 : starEach [.Call (.Name "range" np) [x] [] pos] env = (false, eval (.Call (.Name "range" np) [x] [] pos) env) :: starEach [] env := by rfl) : Do PR w A (eval (.Call (.Name "list" np2) [.Call (.Name "range" np) [x] [] pos] [] pos2) env) h fun u h1 => h.StaysIn h1 ∧ X2 (fun l ys => C3 (u = .ref l) (h1.IsList l ys.toArray) (Paired (NumIs {}) ys (List.range n))) :=
  Do.callName (Do.builtin B el (v := .type "list") (by boot_fast) (by decide) hg hb hk hx2) fun u h1 p => by
    obtain ⟨rfl, rfl⟩ := p
    refine DoCallWith (K := K) (P := fun vs h' => h1.StaysIn h' ∧ X4 (fun r t u' v => vs = [.ref r] ∧ IsRange h' r 0 n 1 t u' v)) Callable.type (Args.cons (he := he2) (DoRange B e d hg hb hk hx he) fun v h2 p => Args.nil ?_) (fun vs h2 p => ?_) (he := he2)
    · obtain ⟨k, r, t, u', v', rfl, hr, _⟩ := p
      exact ⟨k, r, t, u', v', rfl, hr⟩
    · obtain ⟨k, r, t, u', v', rfl, hr⟩ := p
      refine ⟨B.keeps k, fun s Q E e q => ?_⟩
      subst e
      have hsz : Builtin.Range.rangeSize 0 n 1 = (n : Int) := range_size
      refine call_list_range hh hr (small_one (by decide) (by decide) (by with_reducible first | exact Int.natCast_nonneg _ | exact z63 (by assumption) (by assumption) | exact z65 (by assumption) (by assumption) | exact zn (by assumption) | exact le5 (by assumption) (by assumption) | exact Int.ofNat_lt.mpr (by assumption) | exact Nat.le_of_lt (by assumption) | exact Nat.le_trans (by assumption) (by decide) | omega) (by with_reducible first | exact Int.natCast_nonneg _ | exact z63 (by assumption) (by assumption) | exact z65 (by assumption) (by assumption) | exact zn (by assumption) | exact le5 (by assumption) (by assumption) | exact Int.ofNat_lt.mpr (by assumption) | exact Nat.le_of_lt (by assumption) | exact Nat.le_trans (by assumption) (by decide) | omega)) hsz (by with_reducible first | exact Int.natCast_nonneg _ | exact z63 (by assumption) (by assumption) | exact z65 (by assumption) (by assumption) | exact zn (by assumption) | exact le5 (by assumption) (by assumption) | exact Int.ofNat_lt.mpr (by assumption) | exact Nat.le_of_lt (by assumption) | exact Nat.le_trans (by assumption) (by decide) | omega) fun h' tk acc' c' k2 hS hacc => q _ h' tk ⟨fun c o e => k2 _ _ (k _ _ e), _, acc'.toList, rfl, ⟨_, hS, rfl, c', by simp⟩, ?_⟩
      exact nums_of_items (P := fun i v => ∃ t, v = .int (0 + (i : Int) * 1) t) (fun i v ⟨t, e⟩ => ⟨t, by simpa using e⟩) n _ (by simpa using hacc.1) fun j v hj => hacc.2 j v (by simpa using hj)
-- a comprehension over a list at hand
theorem quiet_list {β : Type} {scope : Scope} {cl : List (Str × Addr)} {x : Str} {px : Pos} {ifs : List Expr} {elt : Expr} {base : Heap} {l : Addr} {ys : List Value} {dv : Nat → D} {sp : Nat → Option β} {F : Heap → Value → β → Prop} (hh : A.handled = none) (hl : base.IsList l ys.toArray) (hd : ∀ (i : Nat) v, ys[i]? = some v → (dv i).Is v)
    (hx : scope.names.lookup x = some .local) (hkind : scope.kind = .function) (sz : ys.length ≤ sizeLine) (mono : ∀ g g' y b, F g y b → g.StaysIn g' → F g' y b)
    (turn : ∀ X C (i : Nat) g, i < ys.length → base.StaysIn (hideAll g X) → (∀ a ∈ X, ∃ o, g.get? a = some o) → Lo g C [(x, dv i)] →
      Do PR w A (testsOf ifs (compEnvC scope cl C env)) g fun ok g₁ => g.StaysIn g₁ ∧ ok = (sp i).isSome ∧ ∀ b, sp i = some b → Do PR w A (eval elt (compEnvC scope cl C env)) g₁ fun y g₂ => g₁.StaysIn g₂ ∧ F (hideAll g₂ X) y b) :
    Quiet PR w A env scope cl (.Name x px) ifs elt (.ref l) [] base base ys.length sp F [l] (fun i v _ => ys.toArray[i]? = some v) (fun i => [(x, dv i)]) where
  it := by
    have := iters_list (PR := PR) (w := w) (A := A) (x := x) (px := px) hh hl
    simpa using this
  sz := sz
  ol := fun a ha => by
    rw [List.mem_singleton.mp ha]
    obtain ⟨o, e, _⟩ := hl
    exact ⟨o, e⟩
  asg := fun C i v g m hi hv hn => asg_name hx hkind (hd i v (by simpa using hv)) hn
  mono := mono
  zin := fun a ha => by cases ha
  turn := fun X C i g hi k ex lo => turn X C i g hi k ex lo
end
-- what is read
theorem reads_nums {h : Heap} {g : Heap} {a : Addr} {ys : List Value} {ns : List Nat} (hl : h.IsList a ys.toArray) (p : Paired (NumIs g) ys ns) : ∃ as, Reads h (.ref a) (.list (ns.map fun (i : Nat) => PyData.int (i : Int))) as := by
  obtain ⟨o, ho, hc, n, hd⟩ := hl
  have : ∃ as, ReadsAll h ys (ns.map fun (i : Nat) => PyData.int (i : Int)) as := by
    clear hd
    induction p with
    | nil => exact ⟨_, ReadsAll.nil⟩
    | cons x t ih =>
      obtain ⟨as, q⟩ := ih
      obtain ⟨tk, rfl⟩ := x
      exact ⟨_, ReadsAll.cons (Reads.int _ _) q⟩
  obtain ⟨as, q⟩ := this
  exact ⟨_, reads_list_at ho hc hd (by simpa using q)⟩
theorem WaitAt.reads {h : Heap} {v : Value} {p : Nat × Option Int} (x : WaitAt h v p) : ∃ as, Reads h v (.tuple [.int (p.1 : Int), wtD p.2]) as := by
  obtain ⟨T, n, t, wv, rfl, g, hw⟩ := x
  exact ⟨_, reads_tuple_at g rfl rfl (readsAll_cons_val (Reads.int _ _) (readsAll_cons_val hw.reads ReadsAll.nil))⟩
theorem reads_waits {h : Heap} {a : Addr} {ys : List Value} {ns : List (Nat × Option Int)} (hl : h.IsList a ys.toArray) (p : Paired (WaitAt h) ys ns) : ∃ as, Reads h (.ref a) (.list (ns.map fun p => .tuple [.int (p.1 : Int), wtD p.2])) as := by
  obtain ⟨o, ho, hc, n, hd⟩ := hl
  have : ∃ as, ReadsAll h ys (ns.map fun p => PyData.tuple [.int (p.1 : Int), wtD p.2]) as := by
    clear hd
    induction p with
    | nil => exact ⟨_, ReadsAll.nil⟩
    | cons x t ih =>
      obtain ⟨as, q⟩ := ih
      obtain ⟨bs, r⟩ := x.reads
      exact ⟨_, ReadsAll.cons r q⟩
  obtain ⟨as, q⟩ := this
  exact ⟨_, reads_list_at ho hc hd (by simpa using q)⟩
noncomputable def RowIs (h : Heap) (v : Value) (r : Row) : Prop := ∃ a, v = .ref a ∧ RowAt h a r
theorem reads_told {h : Heap} {a : Addr} {ys : List Value} {rows : List Row} (hl : h.IsList a ys.toArray) (p : Paired (RowIs h) ys rows) : ∃ as, Reads h (.ref a) (.list (rows.map rowD)) as := by
  obtain ⟨o, ho, hc, n, hd⟩ := hl
  have : ∃ as, ReadsAll h ys (rows.map rowD) as := by
    clear hd
    induction p with
    | nil => exact ⟨_, ReadsAll.nil⟩
    | cons x t ih =>
      obtain ⟨as, q⟩ := ih
      obtain ⟨a, rfl, r⟩ := x
      exact ⟨_, ReadsAll.cons r.reads q⟩
  obtain ⟨as, q⟩ := this
  exact ⟨_, reads_list_at ho hc hd (by simpa using q)⟩
theorem selOf_some {n : Nat} : selOf (fun i => some i) n = List.range n := by unfold selOf; simp
theorem selOf_all {α : Type} {l : List α} : ∀ n, n ≤ l.length → selOf (fun i => l[i]?) n = l.take n := by
  intro n
  induction n with
  | zero => intro _; rfl
  | succ n ih =>
    intro h
    rw [selOf_succ, ih (by with_reducible first | exact Int.natCast_nonneg _ | exact z63 (by assumption) (by assumption) | exact z65 (by assumption) (by assumption) | exact zn (by assumption) | exact le5 (by assumption) (by assumption) | exact Int.ofNat_lt.mpr (by assumption) | exact Nat.le_of_lt (by assumption) | exact Nat.le_trans (by assumption) (by decide) | omega), List.take_add_one]
theorem selOf_full {α : Type} {l : List α} : selOf (fun i => l[i]?) l.length = l := by rw [selOf_all _ (Nat.le_refl _), List.take_length]
theorem selOf_nil {β : Type} {sp : Nat → Option β} {n : Nat} : selOf sp n = [] ↔ ∀ i, i < n → sp i = none := by
  unfold selOf
  rw [List.filterMap_eq_nil_iff]
  exact ⟨fun h i hi => h i (List.mem_range.mpr hi), fun h i hi => h i (List.mem_range.mp hi)⟩
theorem waits_nil {rows : List Row} : (waitsOf rows = []) ↔ (idxOf (stIs "blocked") rows = []) := by
  unfold waitsOf idxOf
  rw [selOf_nil, selOf_nil]
  constructor
  · intro h i hi
    have := h i hi
    unfold spW at this
    unfold spOf
    rw [List.getElem?_eq_getElem hi] at this ⊢
    dsimp only [Option.any_some] at this ⊢
    split at this
    · cases this
    · rename_i q; rw [if_neg (by simpa using q)]
  · intro h i hi
    have := h i hi
    unfold spOf at this
    unfold spW
    rw [List.getElem?_eq_getElem hi] at this ⊢
    simp only [Option.any_some] at this
    split at this
    · cases this
    · rename_i q; simp [q]
end Mine
end

-- Stands2
section
open PySem PySem.W PySem.Calls PyProof.Rows PySem.Spec PySem.SeqAt
set_option tactic.hygienic false
namespace Mine
theorem Cmp.neB {PR : Program} {w : World} {A : Around} {h : Heap} {a b : Bool} : Cmp PR w A .NotEq (.bool a) (.bool b) h (!(a == b)) := fun x y ex ey s Q E e q => by cases ex; cases ey; exact RcNeAt.bool_bool a b PR w E Q (Do.now e q ⟨rfl, rfl⟩)
theorem paired_nil {α β : Type} {F : α → β → Prop} {l : List α} {m : List β} (p : Paired F l m) : decide (l = []) = decide (m = []) := by cases p <;> simp
theorem Bd.at {g h : Heap} {L : Addr} {l : List (Str × D)} (b : Bd g L l h) : ∀ a ∈ [L], ∃ o, h.get? a = some o := fun a ha => by
  rw [List.mem_singleton.mp ha]
  obtain ⟨m, ⟨o, es, ep, e, r⟩, _⟩ := b.lo; exact ⟨o, e⟩
section
variable {w : World} {A : Around} {h : Heap} {S dS C dC DG AL R : Addr} {gs ds rs : List Addr} {rows : List Row} {digits : List Int} {taken i : Nat} {ti tt : Tok}
theorem stands_spec (B : Ok (KP w.params) h) (ar : Ar A 4) (SC : Sched w.params h S dS C dC DG AL gs ds rows (some i) digits taken) (RW : RowsAt h R rs rows) (sz : rows.length ≤ 1000) (okR : ∀ r ∈ rows, PyData.strOk r.st = true) :
    Do PR w A (call (.ref 215) [.ref S, .ref R, .int i ti, .int taken tt] []) h fun v h' => h.StaysIn h' ∧ v = .bool true := by
  have szg : gs.length ≤ 1000 := SC.lg ▸ sz
  have szr : rs.length ≤ 1000 := RW.len ▸ sz
  refine' DoDef (args := ⟨[.ref S, .ref R, .int i ti, .int taken tt], []⟩) (binds := [("scheduler", .ref S), ("rows", .ref R), ("here", .int i ti), ("taken", .int taken tt)]) (l := [("taken", .int taken), ("here", .int i), ("rows", .ref R), ("scheduler", .ref S)]) B ?ho ?hcd ar.room ?hb ?hloc (.cons ⟨_, rfl⟩ (.cons ⟨_, rfl⟩ (.cons rfl (.cons rfl .nil)))) ?c2 ?c3 ?c4 ?c5 ?go
  case ho => (first | (with_reducible apply Mine.kp_look; (focus k_is); decide) | (with_reducible apply Mine.kp_ns; (focus k_is); decide) | kernel_rfl)
  case hcd => (first | (with_reducible apply Mine.kp_look; (focus k_is); decide) | (with_reducible apply Mine.kp_ns; (focus k_is); decide) | kernel_rfl)
  case hb => exact fun _ _ => BindsTo.of_eq rfl
  case hloc => exact locs rfl
  case c2 => rfl
  case c3 => rfl
  case c4 => rfl
  case c5 => decide
  case go =>
    intro L h1 b
    have B1 := B.keeps b.st
    have S1 := SC.keeps b.st
    have Sz : Sched w.params (hideAll h1 [L]) S dS C dC DG AL gs ds rows (some i) digits taken := SC.keeps b.onto
    obtain ⟨t1, t2, t3, n, IS⟩ := S1.s
    -- told
    refine DsCompQ (Pe.attr (d := .ref AL) B1 IS oa_157_all rfl rfl (Pe.loc b.lo rfl)) (closureFor_none (by decide)) (by decide) (by rfl) (by decide) ?_
    refine Mine.i2 ?_
    refine ⟨Row, h1, _, fun i => rows[i]?, RowIs, _, _, _, quiet_all (Z := [L]) ar.hh Sz b.at (by rfl) (by rfl) (by first | with_reducible exact sl (by assumption) | with_reducible exact slm (by assumption) | (unfold sizeLine; omega)) (fun _ _ _ _ x k => let ⟨a, e, r⟩ := x; ⟨a, e, r.keeps k⟩) ?_, _, b.lo, ?_⟩
    · intro X C i' g gi di r e1 e2 e3 k ex lo G
      have kg : h.StaysIn g := fun b' o e => of_hideAll _ (k b' o (b.onto _ _ e))
      have Bg := B.keeps kg
      obtain ⟨es, ne, I, ti, ts, wv, fr, av, g1, g2, g3, g4, g5, hw, ha⟩ := G.inst
      have I' := I.keeps hideAll_stays
      refine Dtests0 ⟨fun _ _ e => e, by rw [e3]; rfl, fun b' hb => ?_⟩
      rw [e3] at hb; cases hb
      refine DoList (P := fun vs h' => h' = g ∧ ∃ ts, vs = [.str r.st ts, wv, av]) (Args.cons (Pe.attr (d := .str r.st) Bg I' oa_71_state g2 ⟨_, rfl⟩ (Pe.loc lo rfl)) fun v h3 p => ?_) fun vs h3 p => ?_
      · revert v h3 p; refine Mine.i2t fun t => ?_
        refine Args.cons (P := fun v h' => h' = g ∧ v = wv) ((Do.attr (Pe.loc (d := .ref gi) lo rfl) fun u h4 p => ?_)) fun v h4 p => ?_
        · revert u h4 p; refine i2 ?_
          exact DoGetAttr Bg I' oa_71_waits_for g3 hw.handed
        · revert v h4 p; refine Mine.i2 ?_
          refine Args.cons (P := fun v h' => h' = g ∧ v = av) ((Do.attr (Pe.loc (d := .ref gi) lo rfl) fun u h5 p => ?_)) fun v h5 p => ?_
          · revert u h5 p; refine i2 ?_
            exact DoGetAttr Bg I' oa_71_answer g4 ha.handed
          · revert v h5 p; refine i2 ?_
            exact Args.nil ⟨rfl, t, rfl⟩
      · revert vs h3 p; refine i2t fun t => ?_
        refine ⟨by show 3 ≤ sizeLine; decide, fun h4 T k4 nT _ eT => ⟨k4, T, rfl, t, wv, av, ?_, ?_, ha⟩⟩
        · obtain ⟨n, eT⟩ := eT
          refine ⟨_, hideAll_get _ eT fun q => ?_, rfl, n, rfl⟩
          obtain ⟨o, eo⟩ := ex _ q
          exact no_one nT eo
        · refine hw.off (Tups.ofStays fun c o e => hideAll_get _ (k4 _ _ (of_hideAll _ e)) fun q => ?_)
          exact no_one (hideAll_none _ q) e
    intro T1 h3 g3 ys3 b3 k3 l3 ps3
    rw [SC.lg, selOf_full] at ps3
    have st3 : h.StaysIn g3 := fun c o e => k3 _ _ (b.onto _ _ e)
    have sh3 : h.StaysIn h3 := fun c o e => b3.st _ _ (st3 _ _ e)
    have B3 := B.keeps sh3
    have S3 := SC.keeps sh3
    have R3 := RW.keeps sh3
    obtain ⟨u1, u2, u3, n3, IS3⟩ := S3.s
    have lay : Lay 3 (.list (rows.map rowD)) := Lay.list fun x hx => by
      obtain ⟨r, hr, rfl⟩ := List.mem_map.mp hx
      exact Lay.row (okR r hr)
    -- the first question
    refine Ds.ifRet (T := fun c h' => h3.StaysIn h' ∧ c = false) (Dt.or2 (P := fun c h' => h' = h3 ∧ c = false) (Dt.cmp (P := fun a h' => h' = h3 ∧ a = .ref T1) (P2 := fun a b' h' => h' = h3 ∧ a = .ref T1 ∧ b' = .ref R) (Pe.loc (d := .ref T1) b3.lo rfl) (fun a h4 p => ?_) fun a b' h4 p => ?_) (fun h4 p => ?_) (fun h4 p => by cases p.2)) ?_ ?_
    · revert a h4 p; refine i2 ?_
      refine (Pe.loc (d := .ref R) b3.lo rfl).mono ?_
      refine i2 ?_
      exact ⟨rfl, rfl, rfl⟩
    · obtain ⟨rfl, rfl, rfl⟩ := p
      obtain ⟨as, ra⟩ := reads_told (IsList_keeps l3 b3.st) (Paired.mono (fun a b' x => let ⟨a, e, r⟩ := x; ⟨a, e, r.keeps b3.st⟩) ps3)
      obtain ⟨bs, rb⟩ := R3.reads
      refine (Do.neSame ar.deeper.c ra rb lay).mono ?_
      refine i2 ?_
      exact ⟨_, rfl, rfl, rfl⟩
    · revert h4 p; refine Mine.i1 fun _ => ?_
      refine Dt.cmp (P := fun a h' => h3.StaysIn h' ∧ X2 (fun l ys => C3 (a = .ref l) (h'.IsList l ys.toArray) (Paired (NumIs {}) ys (List.range rows.length)))) (P2 := fun a b' h' => h3.StaysIn h' ∧ X4 (fun l ys l2 ys2 => C6 (a = .ref l) (b' = .ref l2) (h'.IsList l ys.toArray) (h'.IsList l2 ys2.toArray) (Paired (NumIs {}) ys (List.range rows.length)) (Paired (NumIs {}) ys2 (List.range rows.length))))
        (DoCompQ (Pe.attr (d := .ref AL) B3 IS3 oa_157_all rfl rfl (Pe.loc b3.lo rfl)) (closureFor_none (by decide)) (by decide) (by rfl) (by decide) ?_) (fun a h5 p => ?_) fun a b' h5 p => ?_
      · refine Mine.i2 ?_
        refine ⟨Nat, h3, _, fun i => some i, fun _ => NumIs {}, _, _, _, quiet_all ar.hh S3 (by first | exact List.mem_append_left _ (.head _) | exact List.mem_append_left _ (.tail _ (.head _)) | exact List.mem_append_left _ (.tail _ (.tail _ (.head _))) | exact List.mem_append_left _ (.tail _ (.tail _ (.tail _ (.head _)))) | exact .head _ | exact .tail _ (.head _) | simp) (by rfl) (by rfl) (by first | with_reducible exact sl (by assumption) | with_reducible exact slm (by assumption) | (unfold sizeLine; omega)) (fun _ _ _ _ x _ => x) ?_, ?_⟩
        · intro X C i' g gi di r e1 e2 e3 k ex lo G
          have Bg := B3.keeps fun c o e => of_hideAll _ (k c o e)
          obtain ⟨es, ne, I, ti, ts, wv, fr, av, g1, g2, g3, g4, g5, hw, ha⟩ := G.inst
          refine Dtests0 ⟨fun _ _ e => e, rfl, fun b' hb => ?_⟩
          cases hb
          refine (Pe.attr (d := .int i') Bg (I.keeps hideAll_stays) oa_71_number g1 ⟨_, rfl⟩ (Pe.loc lo rfl)).mono ?_
          refine i2t fun t => ?_
          exact ⟨fun _ _ e => e, t, rfl⟩
        · intro Y h' ys k D0 hl ps
          rw [SC.lg, selOf_some] at ps
          exact ⟨k, Y, ys, rfl, hl, ps⟩
      · obtain ⟨k5, l, ys, rfl, hl, ps⟩ := p
        refine Do.mono (DoListRange (n := rows.length) (B3.keeps k5) ar.hh sz gl_range gl_list (Pe.to (Pe.len (B3.keeps k5) gl_len (R3.keeps k5).rl (by first | with_reducible exact zlen (by assumption) | with_reducible exact zlenE (by assumption) (by assumption) | with_reducible exact zvs (by assumption) | with_reducible exact zvsE (by assumption) (by assumption) | (simp; omega)) (Pe.loc (d := .ref R) (b3.lo.keeps k5) rfl)) (by simp [RW.len]))) ?_
        rintro v h6 ⟨k6, l2, ys2, rfl, hl2, ps2⟩
        exact ⟨fun c o e => k6 _ _ (k5 _ _ e), l, ys, l2, ys2, rfl, rfl, IsList_keeps hl k6, hl2, ps, ps2⟩
      · obtain ⟨k5, l, ys, l2, ys2, rfl, rfl, hl, hl2, ps, ps2⟩ := p
        obtain ⟨as, ra⟩ := reads_nums hl ps
        obtain ⟨bs, rb⟩ := reads_nums hl2 ps2
        refine (Do.neSame (n := 2) ar.deeper.c ra rb (Lay.list fun x hx => ?_)).mono ?_
        · obtain ⟨r, hr, rfl⟩ := List.mem_map.mp hx
          exact Lay.int
        · refine i2 ?_
          exact ⟨_, rfl, k5, rfl⟩
    · rintro h4 ⟨_, hc⟩
      cases hc
    rintro h4 ⟨k4, -⟩
    have b4 := b3.keeps k4
    have B4 := B3.keeps k4
    have S4 : Sched w.params g3 S dS C dC DG AL gs ds rows (some i) digits taken := SC.keeps st3
    have R4 := RW.keeps st3
    have R4h := R3.keeps k4
    -- ready
    refine DsCompQ (DoEnum B4 gl_enumerate R4h.rl (Pe.loc b4.lo rfl)) (closureFor_none (by decide)) (by decide) (by rfl) (by decide) ?_
    rintro u h5 ⟨E, it, rfl, he, hi, k5, hei, nE, ni⟩
    refine ⟨Nat, h4, _, spOf (stIs "ready") rows, fun _ => NumIs {}, _, _, _, quiet_rows (Z := [L]) ar.hh (R4.keeps b4.onto) he hi k5 hei nE ni b4.at (by rfl) (by rfl) (by rfl) (by first | with_reducible exact sl (by assumption) | with_reducible exact slm (by assumption) | (unfold sizeLine; omega)) (fun _ _ _ _ x _ => x) ?_, _, b4.lo, ?_⟩
    · intro X C i' g a r e1 e3 k ex lo G
      obtain ⟨ts, wv, av, hl', hw, ha⟩ := G
      have l' := IsList_keeps hl' hideAll_stays
      refine Dtests1 ((Pt.cmp (a := .str r.st) (b := .str "ready") Cmp.eqS (Pe.item l' (by decide) (by decide) rfl ⟨_, rfl⟩ (Pe.loc lo rfl) Pe.int) Pe.str).mono ?_)
      refine i2 ?_
      refine ⟨fun _ _ e => e, (spOf_is (p := stIs "ready") e3).symm, fun b' hb => ?_⟩
      have := spOf_eq hb
      subst this
      refine (Pe.loc lo rfl).mono ?_
      refine i1v fun y hy => ?_
      exact ⟨fun _ _ e => e, hy⟩
    intro RD h6 g6 ys6 b6 k6 l6 ps6
    rw [RW.len] at ps6
    change Paired _ ys6 (idxOf (stIs "ready") rows) at ps6
    have st6 : g3.StaysIn g6 := fun c o e => k6 _ _ (b4.onto _ _ e)
    have sh6 : h.StaysIn h6 := fun c o e => b6.st _ _ (st6 _ _ (st3 _ _ e))
    have B6 := B.keeps sh6
    have R6 := RW.keeps sh6
    -- waits
    refine DsCompQ (DoEnum B6 gl_enumerate R6.rl (Pe.loc b6.lo rfl)) (closureFor_none (by decide)) (by decide) (by rfl) (by decide) ?_
    rintro u h7 ⟨E, it, rfl, he, hi, k7, hei, nE, ni⟩
    refine ⟨_, h6, _, spW rows, WaitAt, _, _, _, quiet_rows (Z := [L]) ar.hh ((R4.keeps st6).keeps b6.onto) he hi k7 hei nE ni b6.at (by rfl) (by rfl) (by rfl) (by first | with_reducible exact sl (by assumption) | with_reducible exact slm (by assumption) | (unfold sizeLine; omega)) (fun _ _ _ _ x k => x.mono k) ?_, _, b6.lo, ?_⟩
    · intro X C i' g a r e1 e3 k ex lo G
      obtain ⟨ts, wv, av, hl', hw, ha⟩ := G
      have l' := IsList_keeps hl' hideAll_stays
      have hsp : spW rows i' = if stIs "blocked" r then some (i', r.wt) else none := by unfold spW; rw [e3]
      refine Dtests1 ((Pt.cmp (a := .str r.st) (b := .str "blocked") Cmp.eqS (Pe.item l' (by decide) (by decide) rfl ⟨_, rfl⟩ (Pe.loc lo rfl) Pe.int) Pe.str).mono ?_)
      refine Mine.i2 ?_
      refine ⟨fun _ _ e => e, ?_, fun b' hb => ?_⟩
      · rw [hsp]
        show (stIs "blocked" r) = _
        cases stIs "blocked" r <;> rfl
      · rw [hsp] at hb
        have hb' : b' = (i', r.wt) := by
          split at hb
          · exact (Option.some.inj hb).symm
          · cases hb
        subst hb'
        refine DoTuple (P := fun vs h' => h' = g ∧ ∃ t, vs = [.int i' t, wv]) (Args.cons (Pe.loc (d := .int i') lo rfl) fun v h8 p => ?_) fun vs h8 p => ?_
        · revert v h8 p; refine Mine.i2t fun t => ?_
          refine Args.cons (P := fun v h' => h' = g ∧ v = wv) (Do.item (P := fun a' h' => h' = g ∧ a' = .ref a) (P2 := fun a' b' h' => h' = g ∧ a' = .ref a ∧ ∃ t, b' = .int 1 t) (Pe.loc (d := .ref a) lo rfl) (fun a' h9 p => ?_) fun a' b' h9 p => ?_) fun v h9 p => ?_
          · revert a' h9 p; refine i2 ?_
            refine Pe.int.mono ?_
            refine i2t fun t => ?_
            exact ⟨rfl, rfl, t, rfl⟩
          · obtain ⟨rfl, rfl, t', rfl⟩ := p
            exact Do.listItem l' (by decide) (by decide) rfl
          · revert v h9 p; refine i2 ?_
            exact Args.nil ⟨rfl, t, rfl⟩
        · revert vs h8 p; refine i2t fun t => ?_
          refine ⟨by show 2 ≤ sizeLine; decide, fun h9 T n k9 nT _ eT => ⟨k9, T, n, t, wv, rfl, ?_, ?_⟩⟩
          · refine hideAll_get _ eT fun q => ?_
            obtain ⟨o, eo⟩ := ex _ q
            exact no_one nT eo
          · refine hw.off (Tups.ofStays fun c o e => hideAll_get _ (k9 _ _ (of_hideAll _ e)) fun q => ?_)
            exact no_one (hideAll_none _ q) e
    intro WT h8 g8 ys8 b8 k8 l8 ps8
    rw [RW.len] at ps8
    change Paired _ ys8 (waitsOf rows) at ps8
    have st8 : g6.StaysIn g8 := fun c o e => k8 _ _ (b6.onto _ _ e)
    have l6' := IsList_keeps l6 st8
    have sh8 : h.StaysIn h8 := fun c o e => b8.st _ _ (st8 _ _ (st6 _ _ (st3 _ _ e)))
    have B8 := B.keeps sh8
    have S8 := SC.keeps sh8
    obtain ⟨v1, v2, v3, n8, IS8⟩ := S8.s
    have rd8 := IsList_keeps l6' b8.st
    have wt8 := IsList_keeps l8 b8.st
    have wp8 := Paired.mono (fun a b' x => WaitAt.mono x b8.st) ps8
    -- the second question
    refine Ds.ifRet (T := fun c h' => h8.StaysIn h' ∧ c = false) (Dt.or2 (P := fun c h' => h8.StaysIn h' ∧ c = false) (Dt.cmp (P := fun a h' => h8.StaysIn h' ∧ X2 (fun l ys => C3 (a = .ref l) (h'.IsList l ys.toArray) (Paired (NumIs {}) ys (idxOf (stIs "ready") rows)))) (P2 := fun a b' h' => h8.StaysIn h' ∧ b' = .ref RD ∧ X2 (fun l ys => C3 (a = .ref l) (h'.IsList l ys.toArray) (Paired (NumIs {}) ys (idxOf (stIs "ready") rows))))
        (DoCompQ (P0 := fun u h' => h8.StaysIn h' ∧ X2 (fun l ys => C3 (u = .ref l) (h'.IsList l ys.toArray) (Paired (fun v i => ∃ g, gs[i]? = some g ∧ v = .ref g) ys (idxOf (stIs "ready") rows)))) ?_ (closureFor_none (by decide)) (by decide) (by rfl) (by decide) ?_) (fun a h9 p => ?_) fun a b' h9 p => ?_) (fun h9 p => ?_) (fun h9 p => by cases p.2)) ?_ ?_
    · refine Do.mono (DoMethod0 B8 IS8 om_ready_ones rfl ke.2.2.1 (Pe.loc (d := .ref S) b8.lo rfl) (ready_spec B8 ar.hh ar.deeper.room S8 szg)) ?_
      rintro v h9 ⟨k9, Y, ys, rfl, _, hl, ps⟩
      exact ⟨k9, Y, ys, rfl, hl, ps⟩
    · rintro u h9 ⟨k9, l, ys, rfl, hl, ps⟩
      have S9 := S8.keeps k9
      have B9 := B8.keeps k9
      have hlen := ps.length
      have zri : (idxOf (stIs "ready") rows).length ≤ rows.length := selOf_len
      refine ⟨Nat, h9, _, fun i => (idxOf (stIs "ready") rows)[i]?, fun _ => NumIs {}, _, _, _, quiet_list (dv := fun i => .ref (match ys[i]? with | some (.ref a) => a | _ => 0)) ar.hh hl ?_ (by rfl) (by rfl) (by first | with_reducible exact sl (by assumption) | with_reducible exact slm (by assumption) | (unfold sizeLine; omega)) (fun _ _ _ _ x _ => x) ?_, ?_⟩
      · intro i v e
        have hi : i < (idxOf (stIs "ready") rows).length := by rw [← hlen]; exact (List.getElem?_eq_some_iff.mp e).1
        obtain ⟨v', e', g, eg, rfl⟩ := paired_get ps i _ (List.getElem?_eq_getElem hi)
        rw [e] at e'; cases e'
        rw [e]
        exact rfl
      · intro X C i' g hi k ex lo
        have hi' : i' < (idxOf (stIs "ready") rows).length := by rw [← hlen]; exact hi
        obtain ⟨v', e', gj, eg, rfl⟩ := paired_get ps i' _ (List.getElem?_eq_getElem hi')
        rw [e'] at lo
        have hj : (idxOf (stIs "ready") rows)[i'] < rows.length := idxOf_lt (List.getElem?_eq_getElem hi')
        obtain ⟨g', d', hg', hd', G⟩ := S9.look (List.getElem?_eq_getElem hj)
        rw [eg] at hg'; cases hg'
        have kg : h9.StaysIn g := fun c o e => of_hideAll _ (k c o e)
        obtain ⟨es, ne, I, ti, ts, wv, fr, av, g1, g2, g3, g4, g5, hw, ha⟩ := (G.keeps kg).inst
        refine Dtests0 ⟨fun _ _ e => e, by rw [List.getElem?_eq_getElem hi']; rfl, fun b' hb => ?_⟩
        rw [List.getElem?_eq_getElem hi'] at hb; cases hb
        refine (Pe.attr (d := .int ((idxOf (stIs "ready") rows)[i'] : Nat)) (B9.keeps kg) I oa_71_number g1 ⟨_, rfl⟩ (Pe.loc lo rfl)).mono ?_
        refine i2t fun t => ?_
        exact ⟨fun _ _ e => e, t, rfl⟩
      · intro Y h' ys2 k D0 hl2 ps2
        rw [hlen, selOf_full] at ps2
        exact ⟨fun c o e => k _ _ (k9 _ _ e), Y, ys2, rfl, hl2, ps2⟩
    · obtain ⟨k9, l, ys, rfl, hl, ps⟩ := p
      refine (Pe.loc (d := .ref RD) (b8.lo.keeps k9) rfl).mono ?_
      refine i2 ?_
      exact ⟨k9, rfl, l, ys, rfl, hl, ps⟩
    · obtain ⟨k9, rfl, l, ys, rfl, hl, ps⟩ := p
      obtain ⟨as, ra⟩ := reads_nums hl ps
      obtain ⟨bs, rb⟩ := reads_nums (IsList_keeps rd8 k9) ps6
      refine (Do.neSame (n := 2) ar.deeper.c ra rb (Lay.list fun x hx => ?_)).mono ?_
      · obtain ⟨r, hr, rfl⟩ := List.mem_map.mp hx
        exact Lay.int
      · refine i2 ?_
        exact ⟨_, rfl, k9, rfl⟩
    · obtain ⟨k9, -⟩ := p
      have S9 := S8.keeps k9
      have B9 := B8.keeps k9
      obtain ⟨w1, w2, w3, n9, IS9⟩ := S9.s
      have lo9 := b8.lo.keeps k9
      refine Dt.cmp (P := fun a h' => h9.StaysIn h' ∧ X2 (fun l ys => C3 (a = .ref l) (h'.IsList l ys.toArray) (Paired (WaitAt h') ys (waitsOf rows)))) (P2 := fun a b' h' => h9.StaysIn h' ∧ b' = .ref WT ∧ X2 (fun l ys => C3 (a = .ref l) (h'.IsList l ys.toArray) (Paired (WaitAt h') ys (waitsOf rows))))
        (DoMethod0 B9 IS9 om_waiting_rows rfl ke.2.2.2.2.2.2.2.2.2.1 (Pe.loc (d := .ref S) lo9 rfl) (waiting_spec B9 ar.deeper.less S9 szg)) (fun a h10 p => ?_) fun a b' h10 p => ?_
      · obtain ⟨k10, l, ys, rfl, hl, ps⟩ := p
        refine (Pe.loc (d := .ref WT) (lo9.keeps k10) rfl).mono ?_
        refine i2 ?_
        exact ⟨k10, rfl, l, ys, rfl, hl, ps⟩
      · obtain ⟨k10, rfl, l, ys, rfl, hl, ps⟩ := p
        have k810 : h8.StaysIn h10 := fun c o e => k10 _ _ (k9 _ _ e)
        obtain ⟨as, ra⟩ := reads_waits hl ps
        obtain ⟨bs, rb⟩ := reads_waits (IsList_keeps wt8 k810) (Paired.mono (fun a b' x => WaitAt.mono x k810) wp8)
        refine (Do.neSame (n := 4) ar.deeper.c ra rb (Lay.list fun x hx => ?_)).mono ?_
        · obtain ⟨r, hr, rfl⟩ := List.mem_map.mp hx
          refine Lay.tuple fun y hy => ?_
          revert y hy; refine Mine.allc ?_ fun y hy => ?_
          · exact Lay.int
          · revert y hy; refine Mine.all1 ?_; exact ⟨Lay.wt.1, Nat.le_trans Lay.wt.2 (by with_reducible first | exact Int.natCast_nonneg _ | exact z63 (by assumption) (by assumption) | exact z65 (by assumption) (by assumption) | exact zn (by assumption) | exact le5 (by assumption) (by assumption) | exact Int.ofNat_lt.mpr (by assumption) | exact Nat.le_of_lt (by assumption) | exact Nat.le_trans (by assumption) (by decide) | omega)⟩
        · refine i2 ?_
          exact ⟨_, rfl, k810, rfl⟩
    · rintro h9 ⟨_, hc⟩
      cases hc
    rintro h9 ⟨k9, -⟩
    have b9 := b8.keeps k9
    have B9 := B8.keeps k9
    have S9 := S8.keeps k9
    obtain ⟨w1, w2, w3, n9, IS9⟩ := S9.s
    obtain ⟨c1, c2, c3, nc9, IC9⟩ := S9.c
    have rd9 := IsList_keeps rd8 k9
    have wt9 := IsList_keeps wt8 k9
    have e1 := paired_nil ps6
    have e2 := paired_nil ps8
    have hg : ∃ gi, gs[i]? = some gi := by
      have := SC.lo i rfl
      exact ⟨gs[i]'(by rw [SC.lg]; exact this), List.getElem?_eq_getElem _⟩
    obtain ⟨gi, egi⟩ := hg
    rw [hereVal_some egi] at IS9
    -- the third
    refine Ds.ifRet (T := fun c h' => h9.StaysIn h' ∧ c = false) (Dt.or2 (P := fun c h' => h9.StaysIn h' ∧ c = false) (Dt.cmp (P := fun a h' => h9.StaysIn h' ∧ a = .bool (decide (idxOf (stIs "ready") rows = []) && !decide (idxOf (stIs "blocked") rows = []))) (P2 := fun a b' h' => h9.StaysIn h' ∧ a = .bool (decide (idxOf (stIs "ready") rows = []) && !decide (idxOf (stIs "blocked") rows = [])) ∧ b' = .bool (decide (idxOf (stIs "ready") rows = []) && !decide (idxOf (stIs "blocked") rows = [])))
        (DoMethod0 B9 IS9 om_is_deadlocked rfl ke.2.2.2.2.2.2.2.2.1 (Pe.loc (d := .ref S) b9.lo rfl) (dead_spec B9 ar.deeper.less S9 szg)) (fun a h10 p => ?_) fun a b' h10 p => ?_) (fun h10 p => ?_) (fun h10 p => by cases p.2)) ?_ ?_
    · obtain ⟨k10, rfl⟩ := p
      refine Do.mono (DoAnd (P := fun c h' => h9.StaysIn h' ∧ c = decide (idxOf (stIs "ready") rows = [])) (R := fun c h' => h9.StaysIn h' ∧ c = (decide (idxOf (stIs "ready") rows = []) && !decide (idxOf (stIs "blocked") rows = []))) ?_ ?_ ?_) ?_
      · refine Do.cmp (P := fun a h' => h' = h10 ∧ a = .ref RD) (P2 := fun a b' h' => h9.StaysIn h' ∧ X1 (fun e => C3 (a = .ref RD) (b' = .ref e) (h'.IsList e #[]))) (Pe.loc (d := .ref RD) (b9.lo.keeps k10) rfl) (fun a h11 p => ?_) fun a b' h11 p => ?_
        · revert a h11 p; refine i2 ?_
          refine DoList Args.plain0 fun vs h12 p => ?_
          revert h12 p; refine i1 fun q => ?_
          cases q
          exact ⟨Nat.zero_le _, fun h13 l k13 _ _ e13 => ⟨fun c o e => k13 _ _ (k10 _ _ e), l, rfl, rfl, e13.isList⟩⟩
        · obtain ⟨k11, e, rfl, rfl, he⟩ := p
          refine (Do.eqEmpty ar.deeper.c0 (IsList_keeps rd9 k11) he).mono ?_
          refine i2 ?_
          exact ⟨_, rfl, k11, e1⟩
      · rintro h11 ⟨k11, hc⟩
        refine Do.cmp (P := fun a h' => h' = h11 ∧ a = .ref WT) (P2 := fun a b' h' => h9.StaysIn h' ∧ X1 (fun e => C3 (a = .ref WT) (b' = .ref e) (h'.IsList e #[]))) (Pe.loc (d := .ref WT) (b9.lo.keeps k11) rfl) (fun a h12 p => ?_) fun a b' h12 p => ?_
        · revert a h12 p; refine i2 ?_
          refine DoList Args.plain0 fun vs h13 p => ?_
          revert h13 p; refine i1 fun q => ?_
          cases q
          exact ⟨Nat.zero_le _, fun h14 l k14 _ _ e14 => ⟨fun c o e => k14 _ _ (k11 _ _ e), l, rfl, rfl, e14.isList⟩⟩
        · obtain ⟨k12, e, rfl, rfl, he⟩ := p
          refine (Do.neEmpty ar.deeper.c0 (IsList_keeps wt9 k12) he).mono ?_
          refine i2 ?_
          refine ⟨_, rfl, k12, ?_⟩
          rw [e2, ← hc, decide_eq_decide.mpr waits_nil]; rfl
      · rintro h11 ⟨k11, hc⟩
        exact ⟨k11, by rw [← hc]; rfl⟩
      · rintro v h11 ⟨c, rfl, k11, rfl⟩
        exact ⟨k11, rfl, rfl⟩
    · obtain ⟨k10, rfl, rfl⟩ := p
      refine (Cmp.neB _ _ rfl rfl).mono ?_
      refine i2 ?_
      exact ⟨_, rfl, k10, by simp⟩
    · obtain ⟨k10, -⟩ := p
      have lo10 := b9.lo.keeps k10
      refine Do.mono (Pt.to (Pt.cmp Cmp.ne (Pe.attr (d := .int taken) (B9.keeps k10) (IC9.keeps k10) oa_185_taken rfl ⟨_, rfl⟩ (Pe.attr (d := .ref C) (B9.keeps k10) (IS9.keeps k10) oa_157_choices rfl rfl (Pe.loc (d := .ref S) lo10 rfl))) (Pe.loc (d := .int taken) lo10 rfl)) (c' := false) (by first | exact List.mem_append_left _ (.head _) | exact List.mem_append_left _ (.tail _ (.head _)) | exact List.mem_append_left _ (.tail _ (.tail _ (.head _))) | exact List.mem_append_left _ (.tail _ (.tail _ (.tail _ (.head _)))) | exact .head _ | exact .tail _ (.head _) | simp)) ?_
      refine i2 ?_
      exact ⟨k10, rfl⟩
    · rintro h10 ⟨_, hc⟩
      cases hc
    rintro h10 ⟨k10, -⟩
    have lo10 := b9.lo.keeps k10
    have B10 := B9.keeps k10
    have IS10 := IS9.keeps k10
    have S10 := S9.keeps k10
    have hir : i < rows.length := SC.lo i rfl
    obtain ⟨gj, dj, egj, edj, G⟩ := S10.look (List.getElem?_eq_getElem hir)
    rw [egi] at egj; cases egj
    obtain ⟨es, ne, I, ti, ts, wv, fr, av, g1, g2, g3', g4, g5, hw, ha⟩ := G.inst
    refine Ds.ret ((Pe.ifExp (d := .bool true) (Pt.cmp Cmp.intIs (Pe.loc (d := .int i) lo10 rfl) Pe.none) (fun hc => by cases hc) (fun _ => Pe.to (Pe.cmp Cmp.eq (Pe.attr (d := .int i) B10 I oa_71_number g1 ⟨_, rfl⟩ (Pe.attr (d := .ref gi) B10 IS10 oa_157_here rfl rfl (Pe.loc (d := .ref S) lo10 rfl))) (Pe.loc (d := .int i) lo10 rfl)) (by first | exact List.mem_append_left _ (.head _) | exact List.mem_append_left _ (.tail _ (.head _)) | exact List.mem_append_left _ (.tail _ (.tail _ (.head _))) | exact List.mem_append_left _ (.tail _ (.tail _ (.tail _ (.head _)))) | exact .head _ | exact .tail _ (.head _) | simp))).mono ?_)
    refine i2 ?_
    exact ⟨fun c o e => k10 _ _ (k9 _ _ (sh8 _ _ e)), rfl⟩
end
end Mine
end

-- Fault
section
open PySem PySem.W PySem.Calls PyProof.Rows PySem.Spec PySem.SeqAt
set_option tactic.hygienic false
namespace Mine
 open PySem.Builtin PySem.Builtin.ObjectAttr
section
variable {prog : Program} {w : World} {A : Around} {R : Result → Shared → Prop} {E : Value → Shared → Prop} {h : Heap} {g : Array GenState} {d : Drawn} {t : Nat} {os : OsState} {K : Frag}
variable {nm q : Str} {C N : Addr} {bs bm : List Value} {hdct : Bool} {sn : List Str} {sub : List Value} {ab : Bool} {col : Option Bool} {dd : Option Addr} {k0 k1 k2 k3 k5 : Option Value} {Bn newId inN : String} {bmN : List Value}
-- an exception of class C, its arguments at t
noncomputable abbrev excO (C t : Addr) (dx : Option Addr) : Obj := { cls := .ref C, dict := dx, data := .fields #[.ref t, .none, .none, .none, .bool false, .none] }
noncomputable abbrev tup (vs : List Value) : Obj := { cls := .type "tuple", data := .seq vs.toArray }
theorem exc_new (Fn : ExcBaseFacts Bn newId inN bmN) (hB : (Value.ref C :: bm).contains (.type Bn) = true) (hA : (Value.ref C :: bm).contains (.type "AttributeError") = false) (hN : (Value.ref C :: bm).contains (.type "NameError") = false) {rest : List Value} (hC : h.get? C = some (excClassObj nm q C N bs bm hdct sn sub ab col dd k0 k1 k2 k3 k5 newId))
    (hq : R (.ok (.ret (.ref (h.objs.size + 1)))) ⟨(h.push (tup rest)).push (excO C h.objs.size none), g, d, t, os⟩) (hrest : rest.length ≤ sizeLine := by size_fits) :
    codeAny (model prog w) A (.builtin newId ⟨.ref C :: rest, []⟩) R ⟨h, g, d, t, os⟩ := by
  have hends := Fn.ends
  refine codeAny_builtinAt Fn.entry ?_
  refine PySem.wpAt_bind ?_
  show PySem.wpAt _ _ _ (stack >>= _) _ _ _
  refine PySem.wpAt_bind (PySem.wpAt_stack fun p below => PySem.wpAt_of_wpAny ?_)
  wp_walk
  refine PySem.wpAt_of_wpAny ?_
  rw [Fn.owner]
  repeat (first | with_reducible refine wpAny_madeHere_exc Fn.canon hC ?_ | with_reducible refine wpAny_loadPart_at hC ?_ | (with_reducible refine wpAny_isSubtype_exc hC ?_; first | rw [hB] | rw [hA] | rw [hN]) | wp_step)
  show R _ _
  rw [Heap.size_push]
  exact hq
theorem exc_call (X : K.In h) (Fn : ExcBaseFacts Bn newId inN bmN) (hBm : bm.contains (.type Bn) = true) (hB : (Value.ref C :: bm).contains (.type Bn) = true) (hA : (Value.ref C :: bm).contains (.type "AttributeError") = false) (hN : (Value.ref C :: bm).contains (.type "NameError") = false) {rest : List Value} {fI : Addr} {Q : Value → Shared → Prop} (hC : h.get? C = some (excClassObj nm q C N bs bm hdct sn sub ab col dd k0 k1 k2 k3 k5 newId))
    (hi : findIn K (.ref C) "__init__" = some (some (.ref fI))) (hf : typeIn K (.ref fI) = some (.type "function"))
    (hq : codeAny (model prog w) (A.under (.builtin "type.__call__" ⟨.ref C :: rest, []⟩)) (.call (.ref fI) ⟨.ref (h.objs.size + 1) :: rest, []⟩) (InitBack (h.objs.size + 1) fun r s' => match r with | .ok (.ret v) => Q v s' | .ok _ => False | .error e => E e s') ⟨(h.push (tup rest)).push (excO C h.objs.size none), g, d, t, os⟩) (hrest : rest.length ≤ sizeLine := by size_fits) :
    wpAny (model prog w) A (call (.ref C) rest) Q E ⟨h, g, d, t, os⟩ := by
  have f1 := tc_lookup
  have f2 := tc_bind (.ref C)
  have hT : (⟨h, g, d, t, os⟩ : Shared).TypeIs (.ref C) "type" := ⟨_, hC, rfl⟩
  refine wpAny_call (codeAny_of_tree ?_)
  show wpAny _ _ (callAny (.ref C) _) _ _ _
  repeat (any_goals (first | assumption | with_reducible refine wpAny_loadPart_at hC ?_ | wp_step))
  refine ⟨rfl, ?_⟩
  refine codeAny_call_builtin_at (Code.quiet_builtin _ (by decide +kernel)) entry_typeCall (wpAny_check_type_call_sub hC ?_)
  repeat (first | with_reducible refine wpAny_loadPart_at hC ?_ | with_reducible refine wpAny_madeBy_exc hC ?_ | wp_step)
  refine codeAny_call_builtin_code (Code.quiet_builtin _ Fn.quiet) (wpAny_check_new_subU Fn hBm .base hC ?_)
  refine exc_new Fn hB hA hN hC ?_ hrest
  show wpAny _ _ _ _ _ _
  have k : ∀ b o, h.get? b = some o → ((h.push (tup rest)).push (excO C h.objs.size none)).get? b = some o := fun b o e => Heap.get?_push_of_some _ (Heap.get?_push_of_some _ e)
  have hC₁ := k _ _ hC
  have X₁ := X.keeps k
  have hget : ((h.push (tup rest)).push (excO C h.objs.size none)).get? (h.objs.size + 1) = some (excO C h.objs.size none) := by heap_get
  have hcC : (Value.ref C :: bm).contains (.ref C) = true := by simp
  repeat (first | with_reducible refine wpAny_loadPart_at hget ?_ | wp_step)
  dsimp only
  refine wpAny_isSubtype_exc hC₁ ?_
  rw [hcC]
  repeat wp_step
  show wpAny _ _ (typeLookup (.ref C) _) _ _ _
  refine (looks_findIn X₁ hi).here ?_
  refine wpAny_holding (wpAny_bind ((bind_fn X₁ _ hf).here ?_))
  refine wpAny_bind (wpAny_call (codeAny_mono hq fun r s' z => ?_))
  rcases r with e | (v | _ | _ | _) <;> first | exact z | exact z.elim | skip
  obtain ⟨rfl, z⟩ := z
  exact wpAny_pure (wpAny_pure z)
theorem check_init (F : ExcBaseFacts Bn newId inN bmN) (hB : (Value.ref C :: bm).contains (.type Bn) = true) {M : Model} {e : Addr} {oe : Obj} {rest : List Value} {Q : Unit → Shared → Prop} {nw : String}
    (hC : h.get? C = some (excClassObj nm q C N bs bm hdct sn sub ab col dd k0 k1 k2 k3 k5 nw)) (he : h.get? e = some oe) (hcls : oe.cls = .ref C) (hq : Q () ⟨h, g, d, t, os⟩) :
    wpAny M A (checkBuiltinCall inN ⟨.ref e :: rest, []⟩) Q E ⟨h, g, d, t, os⟩ := by
  have hshort := F.noStar
  simp only [checkBuiltinCall, F.initKind, F.initSplit, F.initRow]
  repeat (first | (with_reducible refine wpAny_loadPart_at he ?_; rw [hcls]) | with_reducible refine wpAny_loadPart_at hC ?_ | (with_reducible refine wpAny_isSubtype_exc hC ?_; rw [hB]) | wp_step)
  refine wpAny_onRaise ?_
  exact wpAny_of_eq (check_star_args _ _ _ _ _ _) hq
-- B.__init__(e, ..), B a built-in class of exceptions
theorem DoExcInit (F : ExcBaseFacts Bn newId inN bmN) (hB : (Value.ref C :: bm).contains (.type Bn) = true) {e t0 : Addr} {rest : List Value} {nw : String} (hC : h.get? C = some (excClassObj nm q C N bs bm hdct sn sub ab col dd k0 k1 k2 k3 k5 nw)) (he : h.get? e = some (excO C t0 none)) (hr : rest.length ≤ sizeLine) :
    Do prog w A (call (.builtin inN) (.ref e :: rest)) h fun v h' => X1 fun t1 => C3 (v = .none) (h'.get? e = some (excO C t1 none)) (But e h h') := fun s Q E es k => by
  subst es
  obtain ⟨h, g, d, t, os⟩ := s
  refine wpAny_call (codeAny_call_builtin F.init.plain F.initEntry (check_init F hB hC he rfl ?_))
  have he₁ := Heap.get?_push_of_some (tup rest) he
  refine wpAny_bind (wpAny_newObj_type (wpAny_bind (wpAny_bind (wpAny_field he₁ rfl rfl (wpAny_bind (wpAny_setField he₁ rfl (Nat.zero_lt_succ _) (wpAny_letGo (wpAny_pure ?_))))))) (by show rest.toArray.size ≤ sizeLine; rw [List.size_toArray]; exact hr))
  exact k _ _ _ ⟨h.objs.size, rfl, Heap.get?_update_self _ he₁ rfl, fun b o hb e => (Heap.get?_update_other _ _ fun q => hb q.symm).trans (Heap.get?_push_of_some _ e)⟩
-- a dict of names, of at most k
structure AllN (es : List DictEntry) (k : Nat) : Prop where
  nm : es.any (·.refKey) = false
  len : es.length ≤ k
theorem AllN.put {es : List DictEntry} {k : Nat} {attr : Str} {hs : Int} {tk : Tok} {v : Value} (x : AllN es k) : AllN (putL attr hs (.str attr tk) v es) (k + 1) := by
  obtain ⟨a, b⟩ := x
  induction es generalizing k with
  | nil => exact ⟨rfl, Nat.le_add_left 1 k⟩
  | cons e r ih =>
    obtain ⟨a1, a2⟩ := Bool.or_eq_false_iff.mp a
    unfold putL
    split
    · exact ⟨Bool.or_eq_false_iff.mpr ⟨a1, a2⟩, Nat.le_succ_of_le b⟩
    · cases k with
      | zero => exact absurd b (Nat.not_succ_le_zero _)
      | succ k =>
        have z := ih a2 (Nat.le_of_succ_le_succ b)
        exact ⟨Bool.or_eq_false_iff.mpr ⟨a1, z.nm⟩, Nat.succ_le_succ z.len⟩
theorem set_exc {x C2 : Addr} {ox : Obj} {od : Option Obj} {name : Str} {B ow : String} {bmB : List Value} {v : Value} {cd : ClassData} {s : Shared} {Q : Unit → Shared → Prop} (X : K.In s.heap) (I : InstAt s.heap x ox C od) (SF : StoreFacts B bmB "object.__setattr__" ow) (hob : bmB.contains (.type "object") = true) (hs : findIn K (.ref C) "__setattr__" = some (some (.builtin "object.__setattr__"))) (hc : clsIn K C = some cd) (hm : cd.mro = .ref C :: .ref C2 :: bmB) (ht : findIn K (.ref C) name = some none)
    (h : wpAny (model prog w) A.in1 (storeInOwnDict (.ref x) (.ref C) (.str name s.toks) name v false) (fun fin s' => match fin with | .done (.ret _) => Q () s' | _ => False) E { s with toks := s.toks + 1 }) :
    wpAny (model prog w) A (setAttr (.ref x) name v) Q E s := by
  have O := PySem.F.store_object
  have sub : Looks (model prog w) s.heap (isInstance (.ref x) (.type "object")) true := I.type.andThen (looks_mroIn X (by unfold mroIn; rw [hc, Option.bind_some, hm, if_neg (by simp), List.contains_cons, List.contains_cons, hob, Bool.or_true, Bool.or_true]))
  refine wpAny_bind (wpAny_mkText (wpAny_bind (wpAny_bind (wpAny_bind (I.type _ _ _ _ (fun _ _ e => e) (looks_findIn X hs _ _ _ _ (fun _ _ e => e) (wpAny_holding ?_)))))))
  rw [O.slot.bind]
  refine wpAny_bind (wpAny_pure (wpAny_bind (wpAny_call ?_)))
  refine codeAny_call_builtin O.slot.plain O.entry (@check_slot (model prog w) _ _ { s with toks := s.toks + 1 } "object.__setattr__" "object" "__setattr__" (.ref x) [.str name s.toks, v] [] _ O.kind O.split sub (O.args (.ref x) (.str name s.toks) v) ?_)
  have hm' : Looks (model prog w) s.heap (mroOf (.ref C)) (.ref C :: .ref C2 :: bmB) := hm ▸ (looks_clsIn X hc).andThen .now
  show wpAny _ _ (Builtin.«object.__setattr__» ⟨[.ref x, .str name s.toks, v], []⟩) _ _ _
  rw [osa_eq, refuse_eq]
  refine wpAny_bind (wpAny_bind (I.type _ _ _ _ (fun _ _ e => e) (wpAny_bind (hm' _ _ _ _ (fun _ _ e => e) ?_))))
  rw [refuseLoop_ref, refuseLoop_ref, SF.passes]
  refine wpAny_pure (wpAny_bind (I.type _ _ _ _ (fun _ _ e => e) (wpAny_bind (looks_findIn X ht _ _ _ _ (fun _ _ e => e) (wpAny_bind (wpAny_pure (wpAny_mono h (fun fin s' z => ?_) fun _ _ z => z)))))))
  rcases fin with (v' | _ | _ | _) | _ <;> first | exact wpAny_pure (wpAny_pure z) | exact z.elim
-- a field stored into an exception: its dict is made, or changes
theorem DoStoreExc {x C2 t0 : Addr} {d : Option Addr} {name : Str} {v : Value} {cd : ClassData} {k : Nat} (B : Ok K h) (hx : h.get? x = some (excO C t0 d)) (hd : ∀ dx, d = some dx → X2 fun es n => C3 (h.get? dx = some (dictOf es n)) (AllN es k) (k ≤ 100)) (hs : findIn K (.ref C) "__setattr__" = some (some (.builtin "object.__setattr__"))) (hc : clsIn K C = some cd) (hm : cd.mro = [.ref C, .ref C2, .type "Exception", .type "BaseException", .type "object"]) (hh : cd.hasDict = true) (ht : findIn K (.ref C) name = some none) :
    Do prog w A (setAttr (.ref x) name v) h fun _ h' => X3 fun dx es n => C5 (h'.get? x = some (excO C t0 (some dx))) (h'.get? dx = some (dictOf es n)) (AllN es (k + 1)) (d = some dx ∨ d = none ∧ h.get? dx = none) (∀ b o, b ≠ x → b ≠ dx → h.get? b = some o → h'.get? b = some o) := fun s Q E e q => by
  subst e
  have L0 := looks_clsIn (M := model prog w) B.k hc
  obtain ⟨h, g, dr, t, os⟩ := s
  dsimp only at *
  cases d with
  | none =>
    refine set_exc (od := none) B.k ⟨hx, rfl, rfl, trivial⟩ PySem.F.store_Exception (by decide +kernel) hs hc hm ht ?_
    have hx₁ := Heap.get?_push_of_some emptyDict hx
    have hne : x ≠ h.objs.size := fun q => by subst q; exact no_one (fresh_size (Nat.le_refl _)) hx
    have D : ((h.push emptyDict).update x fun o => { o with dict := some h.objs.size }).get? h.objs.size = some emptyDict :=
      (Heap.get?_update_other _ _ hne).trans (Heap.get?_push_size _ rfl)
    refine wpAny_bind (wpAny_pure (wpAny_bind (wpAny_bind (wpAny_loadPart hx (wpAny_bind (L0.here ?_))))))
    rw [hh]
    refine wpAny_bind (wpAny_alloc (wpAny_bind (wpAny_update hx₁ (wpAny_pure (a := some h.objs.size) (wpAny_bind (wpAny_pure (wpAny_bind ?_)))))))
    refine wpAny_bind (wpAny_bind (wpAny_askSetting (wpAny_pure (wpAny_bind (wpAny_mkText (wpAny_bind (wpAny_loadPart D (wpAny_updatePart D ?_))))))))
    have D' := Heap.get?_update_self (Obj.putName name (PyData.keyHash w.params name) (.str name (t + 1)) v) D rfl
    rw [putName_dict] at D'
    refine wpAny_bind (wpAny_lookBehind D' (pastItsLine_dict (by rw [List.size_toArray, sizeLine_eq]; show 1 ≤ _; exact Nat.le_add_left 1 _)) (wpAny_pure (q () _ _ ⟨h.objs.size, _, _, ?_, D', AllN.put ⟨rfl, Nat.zero_le k⟩, .inr ⟨rfl, fresh_size (Nat.le_refl _)⟩, ?_⟩)))
    · rw [Heap.get?_update_other _ _ (Ne.symm hne), Heap.get?_update_self _ hx₁ rfl]
    · intro b o hb _ e
      rw [Heap.get?_update_other _ _ (Ne.symm (Nat.ne_of_lt (Heap.lt_size e))), Heap.get?_update_other _ _ (Ne.symm hb)]
      exact Heap.get?_push_of_some _ e
  | some dx =>
    obtain ⟨es, n, D, N, hk⟩ := hd dx rfl
    have hne : dx ≠ x := fun q => by subst q; rw [hx] at D; cases D
    refine set_exc (od := some (dictOf es n)) B.k ⟨hx, rfl, rfl, D⟩ PySem.F.store_Exception (by decide +kernel) hs hc hm ht ?_
    refine wpAny_bind (wpAny_pure (wpAny_bind (wpAny_bind (wpAny_loadPart hx (wpAny_bind (L0.here ?_))))))
    rw [hh]
    refine wpAny_pure (a := some dx) (wpAny_bind (wpAny_pure (wpAny_bind ?_)))
    refine wpAny_bind (wpAny_bind (wpAny_askSetting (wpAny_pure (wpAny_bind (wpAny_mkText (wpAny_bind (wpAny_loadPart D ?_)))))))
    have D' := Heap.get?_update_self (Obj.putName name (PyData.keyHash w.params name) (.str name (t + 1)) v) D (by rw [putName_dict]; rfl)
    rw [putName_dict] at D'
    have N' : AllN (putL name (PyData.keyHash w.params name) (.str name (t + 1)) v es) (k + 1) := N.put
    have c : (!es.toArray.any (·.key.isStr name) && es.toArray.any (·.refKey)) = false := by
      rw [← Array.any_toList, ← Array.any_toList, N.nm, Bool.and_false]
    dsimp only [dictOf]
    rw [aRefKeyMayBeTheName_at, c]
    refine wpAny_updatePart D (wpAny_bind (wpAny_lookBehind D' (pastItsLine_dict (Nat.le_trans (by rw [List.size_toArray]; exact N'.len) (by rw [sizeLine_eq]; omega))) (wpAny_pure (q () _ _ ⟨dx, _, _, ?_, D', N', .inl rfl, ?_⟩))))
    · rw [Heap.get?_update_other _ _ hne]; exact hx
    · intro b o _ hb e
      rw [Heap.get?_update_other _ _ (Ne.symm hb)]; exact e
variable {PR : Program} {env : Env}
theorem DsExpr {x : Expr} {pos : Pos} {rest : List Stmt} {P : Heap → Prop} {R : Flow → Heap → Prop} (d : Do PR w A (eval x env) h fun _ h1 => P h1) (k : ∀ h1, P h1 → Do PR w A (execs rest env) h1 R) (hi : interactive env = false := by rfl) (hw : swapsWith x none pos.line env = pure false := by rfl) : Do PR w A (execs (.Expr x pos :: rest) env) h R := fun s Q E e q =>
  wpAny_execs_cons (wpAny_Expr_any (d s _ E e fun _ h1 tk p => k h1 p _ Q E rfl fun v h' tk r => q v h' tk r) hi hw)
-- C.name(..), C a class: f is called as it stands
theorem DoClsMethod {o x : Expr} {xs : List Expr} {name : Str} {apos pos : Pos} {u f : Value} {pl : Sem Bool} {P : List Value → Heap → Prop} {R : Value → Heap → Prop} (hk : Callable PR w K f)
    (dO : Do PR w A (eval o env) h fun v h' => h' = h ∧ v = u) (hm : ∀ (s : Shared) (E : Value → Shared → Prop) (Q : Value × List Value → Shared → Prop), s.heap = h → Q (f, []) { s with toks := s.toks + 1 } → wpAny (model PR w) A (getMethod u name pl) Q E s)
    (as : Args PR w A (x :: xs) pos env h P) (k : ∀ vs h1, P vs h1 → Ok K h1 ∧ Do PR w A (call f vs []) h1 R) (he : MethodTree o name apos pos (x :: xs) env pl := by with_unfolding_all rfl) (hs : starEach (x :: xs) env = (false, eval x env) :: starEach xs env := by rfl) (hp : (backTo pos (starEach xs env)).any (·.1) = false := by rfl) :
    Do PR w A (eval (.Call (.Attribute o name apos) (x :: xs) [] pos) env) h R := fun s Q E e q =>
  methodCall_KW (pl := pl) (kws := []) (dO s _ E e fun v h1 tk p => by
    obtain ⟨rfl, rfl⟩ := p
    exact hm { s with heap := h1, toks := tk } _ _ rfl (DoCallWith (first := []) hk as k hs hp _ Q E rfl fun v h' tk r => q v h' tk r)) he
end
theorem getMethod_Exception {K : Frag} {PR : Program} {w : World} {A : Around} {pl : Sem Bool} {s : Shared} {E : Value → Shared → Prop} {Q : Value × List Value → Shared → Prop} (X : K.In s.heap) (q : Q (.builtin "Exception.__init__", []) { s with toks := s.toks + 1 }) : wpAny (model PR w) A (getMethod (.type "Exception") "__init__" pl) Q E s := by
  have L0 : Looks (model PR w) s.heap (typeOf (.type "Exception")) (.type "type") := Looks.of_pure (by kernel_rfl)
  have hg : findIn K (.type "type") "__getattribute__" = some (some (.builtin "type.__getattribute__")) := type_tga
  refine wpAny_bind (wpAny_bind (L0.here ((looks_findIn X hg).here ?_)))
  dsimp only
  rw [if_pos canon_tga]
  refine wpAny_bind (wpAny_mono (Q := fun v => Q (v, [])) (E := E) ?_ (fun _ _ z => wpAny_pure z) fun _ _ z => z)
  exact cls_open X (Looks.of_pure (by kernel_rfl)) L0 hg (looks_hook X (r := none) (by rfl)) (by show subIn K _ _ = _; rfl) (r := .val (.builtin "Exception.__init__")) (by kernel_rfl)
    (wpAny_pure (by show wpAny _ _ (handedOut _) _ _ _; rw [handedOut_of (by rfl)]; exact wpAny_pure q))
-- the class MachineFault
theorem cls52 {P : Params} : X8 (fun (nm q : Str) (N : Addr) (bs : List Value) (sn : List Str) (sub : List Value) (ab : Bool) (col : Option Bool) => X6 (fun (dd : Option Addr) (k0 k1 k2 k3 k5 : Option Value) => List.lookup 52 (KP P) = some (excClassObj nm q 52 N bs [.ref 32, .type "Exception", .type "BaseException", .type "object"] true sn sub ab col dd k0 k1 k2 k3 k5 "Exception.__new__"))) :=
  ⟨_, _, _, _, _, _, _, _, _, _, _, _, _, _, by (first | (with_reducible apply Mine.kp_look; (focus k_is); decide) | (with_reducible apply Mine.kp_ns; (focus k_is); decide) | kernel_rfl)⟩
theorem clsIn_exc {K : Frag} {C : Addr} {nm q : Str} {N : Addr} {bs bm : List Value} {hdct : Bool} {sn : List Str} {sub : List Value} {ab : Bool} {col : Option Bool} {dd : Option Addr} {k0 k1 k2 k3 k5 : Option Value} {newId : String} (e : K.lookup C = some (excClassObj nm q C N bs bm hdct sn sub ab col dd k0 k1 k2 k3 k5 newId)) :
    clsIn K C = some { name := nm, bases := bs, mro := .ref C :: bm, ns := N, qualname := q, hasDict := hdct, slotNames := sn, subclasses := sub, abstract := ab, collection := col } := by
  unfold clsIn
  rw [e]
theorem sa52_1 {P : Params} : findIn (KP P) (.ref 52) "__setattr__" = some (some (.builtin "object.__setattr__")) := by (first | (with_reducible apply Mine.kp_look; (focus k_is); decide) | (with_reducible apply Mine.kp_ns; (focus k_is); decide) | kernel_rfl)
theorem sa52_2 {P : Params} : findIn (KP P) (.ref 52) "message" = some none := by (first | (with_reducible apply Mine.kp_look; (focus k_is); decide) | (with_reducible apply Mine.kp_ns; (focus k_is); decide) | kernel_rfl)
theorem sa52_3 {P : Params} : findIn (KP P) (.ref 52) "spot" = some none := by (first | (with_reducible apply Mine.kp_look; (focus k_is); decide) | (with_reducible apply Mine.kp_ns; (focus k_is); decide) | kernel_rfl)
theorem sa52_4 {P : Params} : findIn (KP P) (.ref 52) "kind" = some none := by (first | (with_reducible apply Mine.kp_look; (focus k_is); decide) | (with_reducible apply Mine.kp_ns; (focus k_is); decide) | kernel_rfl)
theorem sa52_5 {P : Params} : findIn (KP P) (.ref 52) "__init__" = some (some (.ref 49)) := by (first | (with_reducible apply Mine.kp_look; (focus k_is); decide) | (with_reducible apply Mine.kp_ns; (focus k_is); decide) | kernel_rfl)
theorem fn52_f {P : Params} : typeIn (KP P) (.ref 49) = some (.type "function") := by (first | (with_reducible apply Mine.kp_look; (focus k_is); decide) | (with_reducible apply Mine.kp_ns; (focus k_is); decide) | kernel_rfl)
theorem fn52_k {P : Params} : keepIn (KP P) (.ref 29) = true := by (first | (with_reducible apply Mine.kp_look; (focus k_is); decide) | (with_reducible apply Mine.kp_ns; (focus k_is); decide) | kernel_rfl)
theorem fn52_c {P : Params} : nsIn (KP P) mainGlobals "ChanError" = some (some (.ref 32)) := by (first | (with_reducible apply Mine.kp_look; (focus k_is); decide) | (with_reducible apply Mine.kp_ns; (focus k_is); decide) | kernel_rfl)
theorem fn52_x {P : Params} : nsIn (KP P) mainGlobals "Exception" = some .none := by (first | (with_reducible apply Mine.kp_look; (focus k_is); decide) | (with_reducible apply Mine.kp_ns; (focus k_is); decide) | kernel_rfl)
theorem getMethod_ChanError {P : Params} {PR : Program} {w : World} {A : Around} {pl : Sem Bool} {s : Shared} {E : Value → Shared → Prop} {Q : Value × List Value → Shared → Prop} (X : (KP P).In s.heap) (q : Q (.ref 29, []) { s with toks := s.toks + 1 }) : wpAny (model PR w) A (getMethod (.ref 32) "__init__" pl) Q E s :=
  method_cls X (by show specialIn (KP P) _ _ = _; kernel_rfl) (cls_value (mc := .type "type") X (by kernel_rfl) (v := .ref 29) (by show findCls (KP P) _ _ _ = _; kernel_rfl) rfl q)
section
variable {w : World} {A : Around} {h : Heap}
-- the exception's dict among the states
noncomputable def ExD (h : Heap) (e dx : Addr) (k : Nat) : Prop := X3 fun t es n => C3 (h.get? e = some (excO 52 t (some dx))) (h.get? dx = some (dictOf es n)) (AllN es k)
-- x.attr = value, x a MachineFault
theorem DsStoreExc {env : Env} {o value : Expr} {attr : Str} {pos' pos : Pos} {rest : List Stmt} {g : Heap} {l : List (Str × D)} {x t0 : Addr} {d : Option Addr} {dv : D} {k : Nat} {R : Flow → Heap → Prop} (B : Ok (KP w.params) h) (b : Bd g env.locals l h) (hx : h.get? x = some (excO 52 t0 d)) (hd : ∀ dx, d = some dx → dx ≠ env.locals ∧ ExD h x dx k) (hk : k ≤ 100) (ht : findIn (KP w.params) (.ref 52) attr = some none)
    (va : Pe PR w A value env h dv) (dO : Pe PR w A o env h (.ref x))
    (go : ∀ dx h', ExD h' x dx (k + 1) → (d = some dx ∨ d = none ∧ h.get? dx = none) → Bd ((g.hide x).hide dx) env.locals l h' → (∀ b o, b ≠ x → b ≠ dx → h.get? b = some o → h'.get? b = some o) → Do PR w A (execs rest env) h' R)
    (hs : swapsWith value (some (.Attribute o attr pos')) pos.line env = pure false := by rfl) : Do PR w A (execs (.Assign [.Attribute o attr pos'] value pos :: rest) env) h R := by
  obtain ⟨nm, q, N, bs, sn, sub, ab, col, dd, k0, k1, k2, k3, k5, hC⟩ := cls52 (P := w.params)
  have hxL : x ≠ env.locals := fun e => by
    obtain ⟨m, ⟨o, es, ep, e1, e2, _⟩, _⟩ := b.lo
    rw [← e, hx] at e1
    cases e1; cases e2
  refine Ds.setAttr (hs := hs) (P4 := fun h4 => X1 fun dx => C3 (ExD h4 x dx (k + 1)) (d = some dx ∨ d = none ∧ h.get? dx = none) (∀ b o, b ≠ x → b ≠ dx → h.get? b = some o → h4.get? b = some o)) va (fun v h1 p => ?_) ?_
  · revert h1 p; refine i1 fun _ => ?_
    refine dO.mono fun ov h2 p2 => ?_
    revert ov h2 p2; refine i2 ?_
    refine (DoStoreExc (k := k) B hx (fun dx e => ?_) sa52_1 (clsIn_exc hC) rfl rfl ht).mono fun _ h4 z => ?_
    · obtain ⟨t, es, n, a, b, c⟩ := (hd dx e).2
      exact ⟨es, n, b, c, hk⟩
    · obtain ⟨dx, es, n, a, b, c, d1, d2⟩ := z
      exact ⟨dx, ⟨t0, es, n, a, b, c⟩, d1, d2⟩
  · rintro h4 ⟨dx, z, y, k4⟩
    have hdL : dx ≠ env.locals := by
      rcases y with y | ⟨-, y⟩
      · exact (hd dx y).1
      · obtain ⟨m, ⟨o, es, ep, e1, _⟩, _⟩ := b.lo
        exact fun q => by rw [q, e1] at y; cases y
    refine go dx h4 z y ⟨b.lo.at fun o e => k4 _ o (Ne.symm hxL) (Ne.symm hdL) e, fun c o e => ?_, ?_⟩ k4
    · have e1 := Heap.of_hide e
      exact k4 c o (fun q => by subst q; rw [Heap.hide_self] at e1; cases e1) (fun q => by subst q; rw [Heap.hide_self] at e; cases e) (b.st c o (Heap.of_hide e1))
    · cases z : ((g.hide x).hide dx).get? env.locals with
      | none => rfl
      | some o => have := Heap.of_hide (Heap.of_hide z); exact no_one b.own this
-- ChanError.__init__(e, message)
theorem chan_init {e t0 : Addr} {m : Str} {tk : Tok} (B : Ok (KP w.params) h) (ar : Ar A 1) (hi : 254 ≤ e) (he : h.get? e = some (excO 52 t0 none)) :
    Do PR w A (call (.ref 29) [.ref e, .str m tk] []) h fun v h' => X1 fun dx => C4 (v = .none) (ExD h' e dx 2) (h.get? dx = none) (But e h h') := by
  refine' DoDef (args := ⟨[.ref e, .str m tk], []⟩) (binds := [("self", .ref e), ("message", .str m tk), ("spot", .int 0 201)]) (l := [("spot", .int 0), ("message", .str m), ("self", .ref e)]) B ?ho ?hcd ar.room ?hb ?hloc (.cons ⟨_, rfl⟩ (.cons ⟨_, rfl⟩ (.cons rfl .nil))) ?c2 ?c3 ?c4 ?c5 ?go
  case ho => (first | (with_reducible apply Mine.kp_look; (focus k_is); decide) | (with_reducible apply Mine.kp_ns; (focus k_is); decide) | kernel_rfl)
  case hcd => (first | (with_reducible apply Mine.kp_look; (focus k_is); decide) | (with_reducible apply Mine.kp_ns; (focus k_is); decide) | kernel_rfl)
  case hb => exact fun s e => binds_K (X := e ▸ B.k) rfl (by (first | (with_reducible apply Mine.kp_look; (focus k_is); decide) | (with_reducible apply Mine.kp_ns; (focus k_is); decide) | kernel_rfl)) rfl rfl rfl
  case hloc => exact locs rfl
  case c2 => rfl
  case c3 => rfl
  case c4 => rfl
  case c5 => decide
  case go =>
    intro L h1 b
    obtain ⟨nm, q, N, bs, sn, sub, ab, col, dd, k0, k1, k2, k3, k5, hC⟩ := cls52 (P := w.params)
    have B1 := B.keeps b.st
    have he1 := b.st _ _ he
    have hne : e ≠ L := b.ne he
    refine DsExpr (P := fun h2 => X1 fun t1 => C3 (h2.get? e = some (excO 52 t1 none)) (But e h1 h2) (Ok (KP w.params) h2)) (DoClsMethod (K := KP w.params) (f := .builtin "Exception.__init__") Callable.id (Do.builtin (x := "Exception") (v := .type "Exception") B1 fn52_x PyProof.Rows.Boot.«Exception» (by decide)) (fun s E Q es q => getMethod_Exception (es ▸ B1.k) q) (Args.plain1 (Pe.loc b.lo rfl) (Args.plain1 (Pe.loc b.lo rfl) Args.plain0)) fun vs h2 p => ?_) ?_
    · revert h2 p; refine i1 fun p => ?_
      obtain ⟨u, v, rfl, rfl, t, rfl⟩ := p.two
      refine ⟨B1, (DoExcInit PySem.F.excBase_Exception (by decide +kernel) (B1.k _ _ hC) he1 (by show 1 ≤ sizeLine; rw [sizeLine_eq]; omega)).mono ?_⟩
      rintro v h3 ⟨t1, rfl, e3, k3⟩
      exact ⟨t1, e3, k3, B1.low fun c o hc eo => k3 c o (low_ne hc hi) eo⟩
    · rintro h2 ⟨t1, e2, k2, B2⟩
      have b2 : Bd (h.hide e) L [("spot", .int 0), ("message", .str m), ("self", .ref e)] h2 := b.turn (b.lo.at fun o e => k2 _ o (Ne.symm hne) e) fun c o _ hc e => k2 c o hc e
      refine DsStoreExc (k := 0) B2 b2 e2 (fun _ e => nomatch e) (Nat.zero_le _) sa52_2 (Pe.loc b2.lo rfl) (Pe.loc b2.lo rfl) fun dx h3 x3 y3 b3 k3 => ?_
      have n3 : h2.get? dx = none := by
        rcases y3 with y | y
        · cases y
        · exact y.2
      have k3' : But e h2 h3 := fun c o hc e => k3 c o hc (fun q => by subst q; exact no_one n3 e) e
      have B3 : Ok (KP w.params) h3 := B2.low fun c o hc eo => k3' c o (low_ne hc hi) eo
      have hdL : dx ≠ L := fun q => by
        obtain ⟨m, ⟨o, es, ep, e1, _⟩, _⟩ := b2.lo
        rw [q, e1] at n3; cases n3
      have hde : dx ≠ e := fun q => by rw [q, e2] at n3; cases n3
      obtain ⟨t3, es, n, a3, d3, l3⟩ := x3
      refine DsStoreExc (k := 1) B3 b3 a3 (fun _ e => by cases e; exact ⟨hdL, t3, es, n, a3, d3, l3⟩) (Nat.le_of_ble_eq_true rfl) sa52_3 (Pe.loc b3.lo rfl) (Pe.loc b3.lo rfl) fun dx' h4 x4 y4 b4 k4 => ?_
      have : dx' = dx := by
        rcases y4 with y | ⟨y, -⟩
        · cases y; rfl
        · cases y
      subst this
      have nd : h.get? dx' = none := by
        cases z : h.get? dx' with
        | none => rfl
        | some o => rw [k2 _ _ hde (b.st _ _ z)] at n3; cases n3
      exact Ds.nil ⟨dx', rfl, x4, nd, fun c o hc eo => k4 c o hc (fun q => by subst q; exact no_one nd eo) (k3' c o hc (k2 c o hc (b.st c o eo)))⟩
-- MachineFault.__init__(e, kind, message)
theorem fault_init {e t0 : Addr} {kd m : Str} {tk tj : Tok} (B : Ok (KP w.params) h) (ar : Ar A 2) (hi : 254 ≤ e) (he : h.get? e = some (excO 52 t0 none)) :
    DoCode PR w A 49 ⟨[.ref e, .str kd tk, .str m tj], []⟩ h fun v h' => X1 fun dx => C4 (v = .none) (ExD h' e dx 3) (h.get? dx = none) (But e h h') := by
  refine' DoDefC (args := ⟨[.ref e, .str kd tk, .str m tj], []⟩) (binds := [("self", .ref e), ("kind", .str kd tk), ("message", .str m tj)]) (l := [("message", .str m), ("kind", .str kd), ("self", .ref e)]) B ?ho ?hcd ar.room ?hb ?hloc (.cons ⟨_, rfl⟩ (.cons ⟨_, rfl⟩ (.cons rfl .nil))) ?c2 ?c3 ?c4 ?c5 ?go
  case ho => (first | (with_reducible apply Mine.kp_look; (focus k_is); decide) | (with_reducible apply Mine.kp_ns; (focus k_is); decide) | kernel_rfl)
  case hcd => (first | (with_reducible apply Mine.kp_look; (focus k_is); decide) | (with_reducible apply Mine.kp_ns; (focus k_is); decide) | kernel_rfl)
  case hb => exact fun _ _ => BindsTo.of_eq rfl
  case hloc => exact locs rfl
  case c2 => rfl
  case c3 => rfl
  case c4 => rfl
  case c5 => decide
  case go =>
    intro L h1 b
    have B1 := B.keeps b.st
    have he1 := b.st _ _ he
    have hne : e ≠ L := b.ne he
    refine DsExpr (P := fun h2 => X1 fun dx => C3 (ExD h2 e dx 2) (h1.get? dx = none) (But e h1 h2)) (DoClsMethod (K := KP w.params) (f := .ref 29) (Callable.ofK fn52_k) (Do.glob (x := "ChanError") (v := .ref 32) B1 fn52_c) (fun s E Q es q => getMethod_ChanError (P := w.params) (es ▸ B1.k) q) (Args.plain1 (Pe.loc b.lo rfl) (Args.plain1 (Pe.loc b.lo rfl) Args.plain0)) fun vs h2 p => ?_) ?_
    · revert h2 p; refine i1 fun p => ?_
      obtain ⟨u, v, rfl, rfl, t, rfl⟩ := p.two
      refine ⟨B1, (chan_init B1 ar.deeper hi he1).mono ?_⟩
      rintro v h3 ⟨dx, rfl, x3, n3, k3⟩
      exact ⟨dx, x3, n3, k3⟩
    · rintro h2 ⟨dx, x2, n2, k2⟩
      have b2 : Bd (h.hide e) L [("message", .str m), ("kind", .str kd), ("self", .ref e)] h2 := b.turn (b.lo.at fun o e => k2 _ o (Ne.symm hne) e) fun c o _ hc e => k2 c o hc e
      have B2 : Ok (KP w.params) h2 := B1.low fun c o hc eo => k2 c o (low_ne hc hi) eo
      have hdL : dx ≠ L := fun q => by
        obtain ⟨m, ⟨o, es, ep, e1, _⟩, _⟩ := b.lo
        rw [q, e1] at n2; cases n2
      obtain ⟨t3, es, n, a3, d3, l3⟩ := x2
      refine DsStoreExc (k := 2) B2 b2 a3 (fun _ e => by cases e; exact ⟨hdL, t3, es, n, a3, d3, l3⟩) (Nat.le_of_ble_eq_true rfl) sa52_4 (Pe.loc b2.lo rfl) (Pe.loc b2.lo rfl) fun dx' h4 x4 y4 b4 k4 => ?_
      have : dx' = dx := by
        rcases y4 with y | ⟨y, -⟩
        · cases y; rfl
        · cases y
      subst this
      have nd : h.get? dx' = none := by
        cases z : h.get? dx' with
        | none => rfl
        | some o => rw [b.st _ _ z] at n2; cases n2
      exact Ds.nil ⟨dx', rfl, x4, nd, fun c o hc eo => k4 c o hc (fun q => by subst q; exact no_one nd eo) (k2 c o hc (b.st c o eo))⟩
-- the object of a MachineFault that was never raised
noncomputable def faultObj (t dx : Addr) : Obj := excO 52 t (some dx)
structure Fault (h h' : Heap) (e : Addr) : Prop where
  st : h.StaysIn h'
  new : h.get? e = none
  at_ : ∃ t dx, h'.get? e = some (faultObj t dx)
theorem DoFault {t1 t2 : Tok} {kd m : Str} (B : Ok (KP w.params) h) (hh : A.handled = none) (hd : A.depth ≤ 400) (hu : A.units ≤ 400) :
    Do PR w A (call (.ref 52) [.str kd t1, .str m t2] []) h fun v h' => ∃ e, v = .ref e ∧ Fault h h' e := fun s Q E es q => by
  subst es
  obtain ⟨h, g, d, t, os⟩ := s
  obtain ⟨nm, qn, N, bs, sn, sub, ab, col, dd, k0, k1, k2, k3, k5, hC⟩ := cls52 (P := w.params)
  have hC1 : (⟨h, g, d, t, os⟩ : Shared).heap.get? 52 = _ := B.k _ _ hC
  have c : (500 : Nat) < cLine := by decide
  have ar : Ar A 3 := ⟨hh, Nat.lt_of_le_of_lt (Nat.add_le_add_right hd 3) (by decide), Nat.lt_of_le_of_lt (Nat.le_trans (Nat.le_of_eq (Nat.add_assoc A.units 24 64)) (Nat.le_trans (Nat.add_le_add_right hu 88) (show 488 ≤ 500 by decide))) c⟩
  have st : h.StaysIn ((h.push (tup [.str kd t1, .str m t2])).push (excO 52 h.objs.size none)) := fun b o e => Heap.get?_push_of_some _ (Heap.get?_push_of_some _ e)
  have e2 : ((h.push (tup [.str kd t1, .str m t2])).push (excO 52 h.objs.size none)).get? (h.objs.size + 1) = some (excO 52 h.objs.size none) := by heap_get
  have hn : h.get? (h.objs.size + 1) = none := fresh_size (Nat.le_succ _)
  refine exc_call B.k PySem.F.excBase_Exception (by decide +kernel) (by decide +kernel) (by decide +kernel) (by decide +kernel) hC1 sa52_5 fn52_f ?_ (by show 2 ≤ sizeLine; rw [sizeLine_eq]; omega)
  refine fault_init (B.keeps st) ar.under (Nat.le_trans B.size (Nat.le_succ _)) e2 _ _ rfl fun v h' tk p => ?_
  obtain ⟨dx, rfl, ⟨t', es, n, a, -, -⟩, -, k⟩ := p
  exact ⟨rfl, q _ _ _ ⟨_, rfl, fun b o e => k b o (fun q => by subst q; exact no_one hn e) (st b o e), hn, t', dx, a⟩⟩
end
end Mine
end

-- Fall
section
open PySem PySem.W PySem.Calls PyProof.Rows PySem.Spec PySem.SeqAt
set_option tactic.hygienic false
namespace Mine
-- t, begun at h, raises a MachineFault of which P holds
noncomputable def Falls {α : Type} (PR : Program) (w : World) (A : Around) (t : Sem α) (h : Heap) (P : Addr → Heap → Prop) : Prop :=
  ∀ (s : Shared) (Q : α → Shared → Prop) (E : Value → Shared → Prop), s.heap = h → (∀ e h' tk, P e h' → E (.ref e) { s with heap := h', toks := tk }) → wpAny (model PR w) A t Q E s
section
variable {PR : Program} {α β : Type} {w : World} {A : Around} {h : Heap} {t : Sem α} {P P' : Addr → Heap → Prop} {env : Env}
theorem Falls.mono (d : Falls PR w A t h P) (k : ∀ e h', P e h' → P' e h') : Falls PR w A t h P' := fun s Q E e q => d s Q E e fun v h' tk p => q v h' tk (k v h' p)
theorem Fs.stop {st : Stmt} {rest : List Stmt} (d : Falls PR w A (exec st env) h P) : Falls PR w A (execs (st :: rest) env) h P := fun s Q E e q => wpAny_execs_cons (d s _ E e q)
theorem Fs.ifYes {test : Expr} {body rest : List Stmt} {pos : Pos} (dt : Pt PR w A test env h true) (k : Falls PR w A (execs body env) h P) : Falls PR w A (execs (.If test body [] pos :: rest) env) h P := fun s Q E e q =>
  wpAny_execs_cons (wpAny_If (dt s _ E e fun b h1 tk p => by
    obtain ⟨rfl, rfl⟩ := p
    exact k _ _ E rfl fun v h' tk r => q v h' tk r))
end
theorem Fs.raise {w : World} {A : Around} {h : Heap} {env : Env} {x : Expr} {pos : Pos} {rest : List Stmt} (B : Ok (KP w.params) h) (hh : A.handled = none) (d : Do PR w A (eval x env) h fun v h' => ∃ e, v = .ref e ∧ Fault h h' e) :
    Falls PR w A (execs (.Raise (some x) none pos :: rest) env) h fun e h' => Fault h h' e := Fs.stop fun s Q E es q => by
  rw [arm_exec_Raise]
  obtain ⟨nm, qn, N, bs, sn, sub, ab, col, dd, k0, k1, k2, k3, k5, hC0⟩ := cls52 (P := w.params)
  have hcB : [Value.ref 52, .ref 32, .type "Exception", .type "BaseException", .type "object"].contains (.type "BaseException") = true := by decide +kernel
  refine wpAny_bind (wpAny_standAt ?_)
  show wpAny _ A (raiseStmt env (some (do let v ← eval x env; standAt pos; pure v)) none) _ _ _
  refine wpAny_bind (wpAny_bind (d s _ E es fun v h' tk p => wpAny_bind (wpAny_standAt (wpAny_pure ?_))))
  obtain ⟨e, rfl, F⟩ := p
  obtain ⟨t, dx, he⟩ := F.at_
  have hC := (B.keeps F.st).k _ _ hC0
  obtain ⟨hp, g, d', tk', os⟩ := s
  dsimp only at *
  unfold faultObj excO at he
  repeat (first | with_reducible refine wpAny_loadPart_at he ?_ | with_reducible refine wpAny_loadPart_at hC ?_ | (with_reducible refine wpAny_isSubtype_exc hC ?_; rw [hcB]) | wp_step)
  exact wpAny_raiseNew_none hh (q e h' tk F)
-- the frames that are at work
noncomputable def zs (l : List Env) : List Addr := l.filterMap (·.frame)
noncomputable def FramesOk (l : List Env) (h : Heap) : Prop := h.FunFrames (hideAll h (zs l)) l
-- a MachineFault on its way, out of the frames above l
noncomputable def Fly (l : List Env) (h h' : Heap) (e : Addr) : Prop := ∃ a0, Heap.FlyingW (hideAll h (zs l)) l e (.ref 52) a0 h' ∧ h.UpToSlots h'
theorem frames_push {env : Env} {l : List Env} {h h2 : Heap} {lo : List (Str × D)} (hf : env.frame = some env.locals) (hk : env.scope.kind = .function) (b : Bd h env.locals lo h2) (F : FramesOk l h) :
    h2.FunFrames (hideAll h (zs l)) (env :: l) := by
  obtain ⟨m, ⟨o, es, ep, e, hd, _⟩, _⟩ := b.lo
  refine ⟨by rw [hk]; decide, ⟨env.locals, o, hf, ?_, e, fun vs q => by rw [hd] at q; cases q⟩, Heap.FunFrames.of_keeps (fun c o e _ => ⟨o, b.st c o e, rfl⟩) F⟩
  cases q : (hideAll h (zs l)).get? env.locals with
  | none => rfl
  | some o => have := of_hideAll _ q; exact no_one b.own this
theorem framesOk_push {env : Env} {l : List Env} {h h2 : Heap} {lo : List (Str × D)} (hf : env.frame = some env.locals) (hk : env.scope.kind = .function) (b : Bd h env.locals lo h2) (F : FramesOk l h) : FramesOk (env :: l) h2 :=
  funFrames_hide (base := hideAll h (zs l)) (funFrames_self (frames_push hf hk b F)) fun env' he a ha => List.mem_filterMap.mpr ⟨env', he, ha⟩
where funFrames_self {base h : Heap} {l : List Env} (x : h.FunFrames base l) : h.FunFrames base l := x
end Mine
end

-- Fall2
section
open PySem PySem.W PySem.Calls PyProof.Rows PySem.Spec PySem.SeqAt
set_option tactic.hygienic false
namespace Mine
theorem zs_cons {env : Env} {l : List Env} {L : Addr} (hf : env.frame = some L) : zs (env :: l) = L :: zs l := by
  unfold zs; rw [List.filterMap_cons, hf]
-- raised in this frame, or come into it from a call
noncomputable def Rose (env : Env) (l : List Env) (h h' : Heap) (e : Addr) : Prop := X2 (fun h2 lo2 => Bd h env.locals lo2 h2 ∧ (Fault h2 h' e ∨ Fly (env :: l) h2 h' e))
theorem base_push {env : Env} {l : List Env} {h h2 : Heap} {lo : List (Str × D)} (hf : env.frame = some env.locals) (b : Bd h env.locals lo h2) : (hideAll h (zs l)).StaysIn (hideAll h2 (zs (env :: l))) := fun c o e => by
  refine hideAll_get _ (b.st _ _ (of_hideAll _ e)) fun q => ?_
  rw [zs_cons hf] at q
  rcases List.mem_cons.mp q with rfl | q
  · have := of_hideAll _ e; exact no_one b.own this
  · exact no_one (hideAll_none _ q) e
section
variable {M : Model} {A : Around} {E : Value → Shared → Prop} {s' : Shared} {h : Heap} {env : Env} {l : List Env} {e : Addr} {Q : Unit → Shared → Prop}
theorem leave_fly (hfr : A.frames = some (env :: l)) (hf : env.frame = some env.locals) (hk : env.scope.kind = .function) (F : FramesOk l h) (p : Rose env l h s'.heap e) (hQ : ∀ h'', Fly l h h'' e → Q () { s' with heap := h'' }) :
    wpAny M A (leaving env (.ref e)) Q E s' := by
  obtain ⟨h2, lo2, b, p⟩ := p
  rcases p with p | ⟨a0, fl, up⟩
  · obtain ⟨t, dx, he⟩ := p.at_
    have st : h.StaysIn s'.heap := fun c o q => p.st _ _ (b.st _ _ q)
    have hen : (hideAll h (zs l)).get? e = none := by
      cases q : (hideAll h (zs l)).get? e with
      | none => rfl
      | some o => have := b.st _ _ (of_hideAll _ q); exact no_one p.new this
    refine wpAny_leaving_firstW (a0 := .ref t) (base := hideAll h (zs l)) hfr (Heap.FunFrames.of_keeps (fun c o q _ => ⟨o, p.st c o q, rfl⟩) (frames_push hf hk b F)) hf he (fun c o q => st _ _ (of_hideAll _ q)) hen rfl rfl rfl fun h'' x => ?_
    obtain ⟨x1, ⟨_, _, x2⟩, x3, x4⟩ := x
    exact hQ h'' ⟨_, ⟨x1, hen, x2, x3⟩, (Heap.UpToSlots.of_keeps st).trans x4⟩
  · exact wpAny_leaves_onW hfr hf (flyingW_base (base_push hf b) fl) fun h'' fl' up' => hQ h'' ⟨a0, fl', (Heap.UpToSlots.of_keeps b.st).trans (up.trans up')⟩
end
section
variable {PR : Program} {w : World} {A : Around} {env : Env} {h : Heap} {K : Frag}
theorem FalDef {name qual : Str} {params : Arguments} {body : List Stmt} {scope : Scope} {dV kV doc pm cdv ct oc : Value} {an od : Option Addr} {osl : Array (Option Value)} {f : Addr} {args : PySem.Args} {binds : List (Str × Value)} {lo : List (Str × D)} {l : List Env}
    (B : Ok K h) (ho : K.lookup f = some ⟨oc, od, .func (fnOf name qual params body scope dV kV doc pm an cdv ct), osl⟩) (hcd : codeIn K cdv qual = true) (hroom : A.depth < recursionLimit)
    (hbind : ∀ s : Shared, s.heap = h → BindsTo s (fnOf name qual params body scope dV kV doc pm an cdv ct) args binds) (hloc : ∀ y ∈ binds, scope.names.lookup y.1 = some .local) (hz : Zip lo binds.reverse)
    (hco : scope.isCoroutine = false) (hgen : scope.isGenerator = false) (hk : scope.kind = .function) (hcell : ∀ x ∈ scope.names, x.2 ≠ .cell) (hfr : A.frames = some l) (F : FramesOk l h)
    (go : ∀ L h1, Bd h L lo h1 → Falls PR w (A.deeper (envOf qual scope L f cdv)) (execs body (envOf qual scope L f cdv)) h1 fun e h' => Rose (envOf qual scope L f cdv) l h h' e) : Falls PR w A (call (.ref f) args.pos args.kw) h fun e h' => Fly l h h' e := fun s Q E e q => by
  subst e
  obtain ⟨p, loose, mg, mb, T⟩ := B.top
  refine wpAny_call (codeAny_call_def (fd := fnOf name qual params body scope dV kV doc pm an cdv ct) (body := body) (binds := binds) hroom (B.k _ _ ho) rfl T.nolimit (codeRec_of B.k hcd) rfl (hbind s rfl) hcell hloc (fun h₁ hns hk₁ => ?_) hco hgen hk)
  have own : s.heap.get? s.heap.objs.size = none := fresh_size (Nat.le_refl _)
  refine go s.heap.objs.size h₁ ⟨⟨_, hns, hz.look⟩, hk₁, own⟩ _ _ _ rfl fun x h' tk r => ?_
  exact leave_fly (env := envOf qual scope s.heap.objs.size f cdv) (Around.frames_deeper hfr) rfl hk F r fun h'' fl => q x h'' tk fl
end
end Mine
end

-- Fall3
section
open PySem PySem.W PySem.Calls PyProof.Rows PySem.Spec PySem.SeqAt
set_option tactic.hygienic false
namespace Mine
-- room for n calls, well below 400
structure Lw (A : Around) (n : Nat) : Prop where
  hh : A.handled = none
  dp : A.depth + n ≤ 400
  un : A.units + 8 * n ≤ 400
theorem Lw.deeper {A : Around} {env : Env} {n : Nat} (x : Lw A (n + 1)) : Lw (A.deeper env) n := ⟨x.hh, Nat.le_of_lt_succ (ar1 (Nat.lt_succ_of_le x.dp)), Nat.le_of_lt_succ (ar2 (k := 0) (Nat.lt_succ_of_le x.un))⟩
theorem Lw.less {A : Around} {n m : Nat} (x : Lw A n) (h : m ≤ n := by decide) : Lw A m := ⟨x.hh, Nat.le_trans (Nat.add_le_add_left h _) x.dp, Nat.le_trans (Nat.add_le_add_left (Nat.mul_le_mul_left 8 h) _) x.un⟩
theorem Lw.ar {A : Around} {n : Nat} (x : Lw A n) : Ar A n := ⟨x.hh, Nat.lt_of_le_of_lt x.dp (by decide), Nat.lt_of_le_of_lt (Nat.add_le_add_right x.un 64) (by decide)⟩
section
variable {PR : Program} {w : World} {A : Around} {env : Env} {h : Heap} {K : Frag}
theorem DoStrInt {x : Expr} {np pos : Pos} {n : Nat} (B : Ok K h) (e : nsIn K mainGlobals "str" = some .none) (hn : n ≤ 1000000) (d : Pe PR w A x env h (.int n)) (hg : env.globals = mainGlobals := by rfl) (hb : env.builtins = builtinsNs := by rfl) (hk : env.scope.kind = .function := by rfl) (hx : env.kindOf "str" = some .globalImplicit := by rfl)
    (he : starEach [x] env = (false, eval x env) :: starEach [] env := by rfl) : Do PR w A (eval (.Call (.Name "str" np) [x] [] pos) env) h fun v h' => h' = h ∧ X2 (fun y t => v = .str y t ∧ y.length ≤ 1000010) :=
  Do.callName (Do.builtin B e (v := .type "str") (by boot_fast) (by decide) hg hb hk hx) fun u h1 p => by
    revert u h1 p; refine i2 ?_
    refine DoCallWith (K := K) Callable.type (Args.plain1 (he := he) d Args.plain0) (fun vs h2 p => ?_) (he := he)
    revert h2 p; refine i1 fun p => ?_
    obtain ⟨v, rfl, t, rfl⟩ := p.one
    refine ⟨B, fun s Q E e q => str_of_int_fit (N := 4611686018427387904) (by split <;> omega) (by decide) fun _ => Do.tick _ e q ⟨rfl, _, _, rfl, ?_⟩⟩
    have := len_str_of_int (n : Int)
    omega
theorem DoAddStr {l r : Expr} {pos : Pos} {a : Str} (za : a.length ≤ 1000) (dl : Pe PR w A l env h (.str a)) (dr : Do PR w A (eval r env) h fun v h' => h' = h ∧ X2 (fun y t => v = .str y t ∧ y.length ≤ 1000010)) : Do PR w A (eval (.BinOp l .Add r pos) env) h fun v h' => h' = h ∧ ∃ y t, v = .str y t :=
  Do.binop (P2 := fun x y h' => h' = h ∧ (∃ t, x = .str a t) ∧ X2 (fun b t => y = .str b t ∧ b.length ≤ 1000010)) dl (fun x h1 p => by
      revert h1 p; refine i1 fun px => ?_
      exact Do.mono dr fun y h' p => ⟨p.1, px, p.2⟩) fun x y h2 p => by
    obtain ⟨rfl, ⟨t, rfl⟩, b, u, rfl, zb⟩ := p
    exact fun s Q E e q => add_str (fun t' tk => Do.tick tk e q ⟨rfl, _, _, rfl⟩) (by first | with_reducible exact sl (by assumption) | with_reducible exact slm (by assumption) | (unfold sizeLine; omega))
end
section
variable {w : World} {A : Around} {h : Heap} {env : Env}
theorem DoFaultE {x : Expr} {np cp pos : Pos} {k : Nat} (B : Ok (KP w.params) h) (lw : Lw A 1) (dx : Do PR w A (eval x env) h fun v h' => h' = h ∧ ∃ m t, v = .str m t) (hg : env.globals = mainGlobals := by rfl) (hk : env.scope.kind = .function := by rfl) (hx : env.kindOf "MachineFault" = some .globalImplicit := by rfl)
    (he : starEach [.Constant (.str "scheduler") k cp, x] env = (false, eval (.Constant (.str "scheduler") k cp) env) :: starEach [x] env := by rfl) (he2 : starEach [x] env = (false, eval x env) :: starEach [] env := by rfl) (hp : (backTo pos (starEach [x] env)).any (·.1) = false := by rfl) :
    Do PR w A (eval (.Call (.Name "MachineFault" np) [.Constant (.str "scheduler") k cp, x] [] pos) env) h fun v h' => ∃ e, v = .ref e ∧ Fault h h' e :=
  Do.callName (Pe.glob (d := .ref 52) B gl_MachineFault rfl hg hk hx) fun u h1 p => by
    obtain ⟨rfl, rfl⟩ := p
    refine DoCallWith (K := KP w.params) (Callable.ofK ke_f.2.2.2.2.2.2.2.2.2.2.2) (P := fun vs h' => h' = h1 ∧ X3 (fun t1 m t2 => vs = [.str "scheduler" t1, .str m t2])) (Args.cons (he := he) (Pe.str (x := "scheduler")) fun v h2 p => ?_) (fun vs h2 p => ?_) (he := he) (hp := hp)
    · revert v h2 p; refine i2t fun t1 => ?_
      exact Args.cons (he := he2) dx fun v h3 p => Args.nil (by obtain ⟨rfl, m, t, rfl⟩ := p; exact ⟨rfl, t1, m, t, rfl⟩)
    · obtain ⟨rfl, t1, m, t2, rfl⟩ := p
      exact ⟨B, DoFault B lw.hh (Nat.le_trans (Nat.le_add_right _ _) lw.dp) (Nat.le_trans (Nat.le_add_right _ _) lw.un)⟩
end
section
variable {w : World} {A : Around} {h : Heap} {S dS C dC DG AL : Addr} {gs ds : List Addr} {grs : List Row} {here : Option Nat} {digits : List Int} {taken : Int} {l : List Env}
theorem of_falls {i : Nat} {t : Tok} (B : Ok (KP w.params) h) (lw : Lw A 2) (hfr : A.frames = some l) (F : FramesOk l h) (SC : Sched w.params h S dS C dC DG AL gs ds grs here digits taken) (hi : gs.length ≤ i) (sz : i ≤ 1000) :
    Falls PR w A (call (.ref 103) [.ref S, .int i t] []) h fun e h' => Fly l h h' e := by
  refine' FalDef (args := ⟨[.ref S, .int i t], []⟩) (binds := [("self", .ref S), ("number", .int i t)]) (lo := [("number", .int i), ("self", .ref S)]) B ?ho ?hcd lw.ar.room ?hb ?hloc (.cons ⟨_, rfl⟩ (.cons rfl .nil)) ?c2 ?c3 ?c4 ?c5 hfr F ?go
  case ho => (first | (with_reducible apply Mine.kp_look; (focus k_is); decide) | (with_reducible apply Mine.kp_ns; (focus k_is); decide) | kernel_rfl)
  case hcd => (first | (with_reducible apply Mine.kp_look; (focus k_is); decide) | (with_reducible apply Mine.kp_ns; (focus k_is); decide) | kernel_rfl)
  case hb => exact fun _ _ => BindsTo.of_eq rfl
  case hloc => exact locs rfl
  case c2 => rfl
  case c3 => rfl
  case c4 => rfl
  case c5 => decide
  case go =>
    intro L h1 b
    have B1 := B.keeps b.st
    have S1 := SC.keeps b.st
    obtain ⟨s1, s2, s3, ns, IS⟩ := S1.s
    refine Fs.ifYes ?_ ?_
    · refine Pt.to (Pt.not (Pt.chain2 Cmp.le Cmp.lt Pe.int (Pe.loc b.lo rfl) (Pe.len B1 gl_len S1.al (by first | with_reducible exact zlen (by assumption) | with_reducible exact zlenE (by assumption) (by assumption) | with_reducible exact zvs (by assumption) | with_reducible exact zvsE (by assumption) (by assumption) | (simp; omega)) (Pe.attr (d := .ref AL) B1 IS oa_157_all rfl rfl (Pe.loc b.lo rfl))))) ?_
      have : ¬ (i : Int) < (gs.length : Int) := by omega
      simp [this]
    · refine Falls.mono (Fs.raise B1 lw.hh (DoFaultE B1 lw.deeper (DoAddStr (by decide) Pe.str (DoStrInt B1 gl_str (by with_reducible first | exact Int.natCast_nonneg _ | exact z63 (by assumption) (by assumption) | exact z65 (by assumption) (by assumption) | exact zn (by assumption) | exact le5 (by assumption) (by assumption) | exact Int.ofNat_lt.mpr (by assumption) | exact Nat.le_of_lt (by assumption) | exact Nat.le_trans (by assumption) (by decide) | omega) (Pe.loc b.lo rfl))))) fun e h' f => ⟨h1, _, b, .inl f⟩
theorem block_falls {i : Nat} {r : Row} {m : Str} {t : Tok} (B : Ok (KP w.params) h) (lw : Lw A 2) (hfr : A.frames = some l) (F : FramesOk l h) (SC : Sched w.params h S dS C dC DG AL gs ds grs (some i) digits taken) (hr : grs[i]? = some r) (hst : (r.st == "ready") = false) :
    Falls PR w A (call (.ref 115) [.ref S, .str m t] []) h fun e h' => Fly l h h' e := by
  refine' FalDef (args := ⟨[.ref S, .str m t], []⟩) (binds := [("self", .ref S), ("waits_for", .str m t)]) (lo := [("waits_for", .str m), ("self", .ref S)]) B ?ho ?hcd lw.ar.room ?hb ?hloc (.cons ⟨_, rfl⟩ (.cons rfl .nil)) ?c2 ?c3 ?c4 ?c5 hfr F ?go
  case ho => (first | (with_reducible apply Mine.kp_look; (focus k_is); decide) | (with_reducible apply Mine.kp_ns; (focus k_is); decide) | kernel_rfl)
  case hcd => (first | (with_reducible apply Mine.kp_look; (focus k_is); decide) | (with_reducible apply Mine.kp_ns; (focus k_is); decide) | kernel_rfl)
  case hb => exact fun _ _ => BindsTo.of_eq rfl
  case hloc => exact locs rfl
  case c2 => rfl
  case c3 => rfl
  case c4 => rfl
  case c5 => decide
  case go =>
    intro L h1 b
    obtain ⟨g, d', hg, hd', G⟩ := SC.look hr
    obtain ⟨t1, t2, t3, t4, t5, ti, ts, wv, fr, av, n, I, hw, ha⟩ := G.at_
    obtain ⟨s1, s2, s3, ns, IS⟩ := SC.s
    rw [hereVal_some hg] at IS
    obtain ⟨tR, eR⟩ := gl_READY (P := w.params)
    have B1 := B.keeps b.st
    refine Fs.ifYes (Pt.to (Pt.cmp Cmp.neS (Pe.attr (d := .str r.st) B1 (I.keeps b.st) oa_71_state rfl ⟨_, rfl⟩ (Pe.attr (d := .ref g) B1 (IS.keeps b.st) oa_157_here rfl rfl (Pe.loc b.lo rfl))) (Pe.glob (d := .str "ready") B1 eR ⟨_, rfl⟩)) (by simp [bne, hst])) ?_
    refine Falls.mono (Fs.raise B1 lw.hh (DoFaultE B1 lw.deeper (Do.mono Pe.str fun v h' p => ⟨p.1, _, p.2⟩))) fun e h' f => ⟨h1, _, b, .inl f⟩
end
end Mine
end

-- Lam
section
open PySem PySem.W PySem.Calls PyProof.Rows PySem.Spec PySem.SeqAt
set_option tactic.hygienic false
namespace Mine
section
variable {PR : Program} {w : World} {A : Around} {env : Env} {h : Heap} {K : Frag} {P : Addr → Heap → Prop}
-- the cell at c holds d
noncomputable def CellAt (h : Heap) (c : Addr) (d : D) : Prop := ∃ v, h.IsCell c (some v) ∧ d.Is v
theorem CellAt.at {h h' : Heap} {c : Addr} {d : D} (x : CellAt h c d) (k : ∀ o, h.get? c = some o → h'.get? c = some o) : CellAt h' c d := let ⟨v, ⟨o, e, r⟩, hd⟩ := x; ⟨v, ⟨o, k o e, r⟩, hd⟩
theorem Pe.cell {x : Str} {pos : Pos} {c : Addr} {d : D} (H : CellAt h c d) (hc : env.cells.lookup x = some c) (hk : env.scope.kind = .function := by rfl) (hx : env.kindOf x = some .cell := by rfl) (hb : (x == ("__debug__" : Str)) = false := by decide) : Pe PR w A (.Name x pos) env h d := fun s Q E e q => by
  obtain ⟨v, hv, hd⟩ := H
  exact wpAny_Name (wpAny_loadName_cell hk hx hc (e ▸ hv) (Do.now e q ⟨rfl, hd⟩)) hb
theorem Pe.free {x : Str} {pos : Pos} {c : Addr} {d : D} (H : CellAt h c d) (hc : env.cells.lookup x = some c) (hk : env.scope.kind = .function := by rfl) (hx : env.kindOf x = some .free := by rfl) (hb : (x == ("__debug__" : Str)) = false := by decide) (hn : (x == ("__classdict__" : Str)) = false := by decide) : Pe PR w A (.Name x pos) env h d := fun s Q E e q => by
  obtain ⟨v, hv, hd⟩ := H
  exact wpAny_Name (wpAny_loadName_free hk hx hc (e ▸ hv) (Do.now e q ⟨rfl, hd⟩) hn) hb
theorem Fs.assign {x : Str} {p' pos : Pos} {value : Expr} {rest : List Stmt} (d : Falls PR w A (eval value env) h P) (hs : swapsWith value (some (.Name x p')) pos.line env = pure false := by rfl) : Falls PR w A (execs (.Assign [.Name x p'] value pos :: rest) env) h P := fun s Q E e q =>
  wpAny_execs_cons (wpAny_Assign_Name (d s _ E e q) hs)
theorem Fs.assignGo {x : Str} {p' pos : Pos} {value : Expr} {rest : List Stmt} {V : Value → Heap → Prop} (d : Do PR w A (eval value env) h V) (k : ∀ v h1, V v h1 → X3 (fun g l dv => C3 (Bd g env.locals l h1) (D.Is dv v) (∀ h2, Bd g env.locals ((x, dv) :: l) h2 → Heap.SameBut env.locals h1 h2 → Falls PR w A (execs rest env) h2 P))) (hs : swapsWith value (some (.Name x p')) pos.line env = pure false := by rfl) (hk : env.scope.kind = .function := by rfl) (hl : env.kindOf x = some .local := by rfl) :
    Falls PR w A (execs (.Assign [.Name x p'] value pos :: rest) env) h P := fun s Q E e q =>
  wpAny_execs_cons (wpAny_Assign_Name (d s _ E e fun v h1 tk p => by
    obtain ⟨g, l, dv, b, hd, k⟩ := k v h1 p
    exact DoStore (PR := PR) (w := w) (A := A) b hd hk hl _ _ E rfl fun _ h2 tk2 r => k h2 r.1 r.2 _ Q E rfl fun v h' tk r => q v h' tk r) hs)
theorem FalCallWith {f : Value} {first : List Value} {x : Expr} {xs : List Expr} {pos : Pos} {V : List Value → Heap → Prop} (C : Callable PR w K f) (a : Args PR w A (x :: xs) pos env h V) (k : ∀ vs h1, V vs h1 → Ok K h1 ∧ Falls PR w A (call f (first ++ vs) []) h1 P) (he : starEach (x :: xs) env = (false, eval x env) :: starEach xs env := by rfl) (hp : (backTo pos (starEach xs env)).any (·.1) = false := by rfl) : Falls PR w A (callWith pos f first (backTo pos (starEach (x :: xs) env)) []) h P := fun s Q E e q => by
  unfold Args at a
  rw [he] at a ⊢
  exact callWith_of (P := Ok K) (by show ((false || (backTo pos (starEach xs env)).any (·.1)) || false) = false; rw [hp]; rfl) C (evalArgs_plain (a s _ E e fun vs h1 tk p => ⟨(k vs h1 p).1, (k vs h1 p).2 _ Q E rfl fun v h' tk r => q v h' tk r⟩))
theorem FalMethodP {o x : Expr} {xs : List Expr} {name : Str} {apos pos : Pos} {a C dx f : Addr} {es : List DictEntry} {n : Nat} {pl : Sem Bool} {V : List Value → Heap → Prop} (B : Ok K h) (I : Inst h a C dx es n) (hm : ownMethod K C name f = true) (hl : getL name es = some none) (hk : keepIn K (.ref f) = true)
    (dO : Pe PR w A o env h (.ref a)) (as : Args PR w A (x :: xs) pos env h V) (k : ∀ vs h1, V vs h1 → Ok K h1 ∧ Falls PR w A (call (.ref f) (.ref a :: vs) []) h1 P) (he : MethodTree o name apos pos (x :: xs) env pl := by with_unfolding_all rfl) (hs : starEach (x :: xs) env = (false, eval x env) :: starEach xs env := by rfl) (hp : (backTo pos (starEach xs env)).any (·.1) = false := by rfl) :
    Falls PR w A (eval (.Call (.Attribute o name apos) (x :: xs) [] pos) env) h P := fun s Q E e q =>
  methodCall_KW (pl := pl) (kws := []) (dO s _ E e fun u h1 tk p => by
    obtain ⟨rfl, rfl⟩ := p
    simp only [ownMethod, Bool.and_eq_true, beq_iff_eq] at hm
    exact method_fn (s := { s with heap := h1, toks := tk }) B.k I.at (plainGet_of hm.1.1).1 (plainGet_of hm.1.1).2 hm.1.2 (beq_iff_eq.mp hm.2) (by show (lookIn name (dictOf es n)).map _ = _; rw [lookIn_dict, hl]; rfl) (FalCallWith (first := [.ref a]) (Callable.ofK hk) as k hs hp _ Q E rfl fun v h' tk r => q v h' tk r)) he
end
section
variable {w : World} {A : Around} {h : Heap} {S dS C dC DG AL : Addr} {gs ds : List Addr} {grs : List Row} {here : Option Nat} {digits : List Int} {taken : Int} {l : List Env}
theorem wake_falls {i k : Int} {t tk : Tok} (B : Ok (KP w.params) h) (lw : Lw A 4) (hfr : A.frames = some l) (F : FramesOk l h) (SC : Sched w.params h S dS C dC DG AL gs ds grs here digits taken) (sz : gs.length ≤ 1000)
    (hi : i = gs.length ∨ X2 (fun (j : Nat) (r : Row) => C3 (i = j) (grs[j]? = some r) ((r.st == "blocked") = false))) :
    Falls PR w A (call (.ref 123) [.ref S, .int i t, .int k tk] []) h fun e h' => Fly l h h' e := by
  refine' FalDef (args := ⟨[.ref S, .int i t, .int k tk], []⟩) (binds := [("self", .ref S), ("number", .int i t), ("answer", .int k tk)]) (lo := [("answer", .int k), ("number", .int i), ("self", .ref S)]) B ?ho ?hcd lw.ar.room ?hb ?hloc (.cons ⟨_, rfl⟩ (.cons ⟨_, rfl⟩ (.cons rfl .nil))) ?c2 ?c3 ?c4 ?c5 hfr F ?go
  case ho => (first | (with_reducible apply Mine.kp_look; (focus k_is); decide) | (with_reducible apply Mine.kp_ns; (focus k_is); decide) | kernel_rfl)
  case hcd => (first | (with_reducible apply Mine.kp_look; (focus k_is); decide) | (with_reducible apply Mine.kp_ns; (focus k_is); decide) | kernel_rfl)
  case hb => exact fun s e => binds_K (X := e ▸ B.k) rfl (by (first | (with_reducible apply Mine.kp_look; (focus k_is); decide) | (with_reducible apply Mine.kp_ns; (focus k_is); decide) | kernel_rfl)) rfl rfl rfl
  case hloc => exact locs rfl
  case c2 => rfl
  case c3 => rfl
  case c4 => rfl
  case c5 => decide
  case go =>
    intro L h1 b
    have B1 := B.keeps b.st
    have S1 := SC.keeps b.st
    obtain ⟨s1, s2, s3, ns, IS⟩ := S1.s
    rcases hi with rfl | ⟨j, r, rfl, hr, hst⟩
    · refine Falls.mono (Fs.assign (FalMethodP B1 IS om_of rfl ke.2.1 (Pe.loc b.lo rfl) (Args.plain1 (Pe.loc b.lo rfl) Args.plain0) (fun vs h2 p => ?_))) (fun e h' f => ⟨h1, _, b, .inr f⟩)
      revert h2 p; refine i1 fun q => ?_
      obtain ⟨v, rfl, u, rfl⟩ := q.one
      exact ⟨B1, of_falls B1 lw.deeper.less (Around.frames_deeper hfr) (framesOk_push (env := envOf _ _ L _ _) rfl rfl b F) S1 (Nat.le_refl _) sz⟩
    · obtain ⟨g, d', hg, hd', G⟩ := SC.look hr
      obtain ⟨t1, t2, t3, t4, t5, ti, ts, wv, fr, av, n, I, hw, ha⟩ := G.at_
      obtain ⟨tB, eB⟩ := gl_BLOCKED (P := w.params)
      refine Fs.assignGo (DoMethodP (R := fun v h' => v = .ref g ∧ h1.StaysIn h') B1 IS om_of rfl ke.2.1 (Pe.loc b.lo rfl) (Args.plain1 (Pe.loc b.lo rfl) Args.plain0) (fun vs h2 p => ?_)) fun v h2 p => ?_
      · revert h2 p; refine i1 fun q => ?_
        obtain ⟨v, rfl, u, rfl⟩ := q.one
        exact ⟨B1, of_spec B1 lw.deeper.ar.less S1 hg sz⟩
      · obtain ⟨rfl, k2⟩ := p
        refine ⟨h, _, .ref g, b.keeps k2, rfl, fun h3 b3 _ => ?_⟩
        have B3 := B.keeps b3.st
        exact Falls.mono (Fs.ifYes (Pt.to (Pt.cmp Cmp.neS (Pe.attr (d := .str r.st) B3 (I.keeps b3.st) oa_71_state rfl ⟨_, rfl⟩ (Pe.loc b3.lo rfl)) (Pe.glob (d := .str "blocked") B3 eB ⟨_, rfl⟩)) (by simp [bne, hst]))
          (Fs.raise B3 lw.hh (DoFaultE B3 lw.deeper.less (Do.mono Pe.str fun v h' p => ⟨p.1, _, p.2⟩)))) fun e h' f => ⟨h3, _, b3, .inl f⟩
end
end Mine
end

-- Lam2
section
open PySem PySem.W PySem.Calls PyProof.Rows PySem.Spec PySem.SeqAt
set_option tactic.hygienic false
namespace Mine
section
variable {PR : Program} {w : World} {A : Around} {env : Env} {h : Heap} {K : Frag} {P : Addr → Heap → Prop}
theorem FalLam {qual : Str} {params : Arguments} {body : Expr} {scope : Scope} {cl : List (Str × Addr)} {pm ctv : Value} {c' f : Addr} {l : List Env} (B : Ok K h) (ho : h.get? f = some (kla_obj "<lambda>" qual params body scope cl pm c' ctv)) (hcd : h.CodeRec (.ref c') qual) (hroom : A.depth < recursionLimit)
    (hbind : bindArgs (kla_fn "<lambda>" qual params body scope cl pm (.ref c') ctv) ⟨[], []⟩ = pure []) (hco : scope.isCoroutine = false) (hgen : scope.isGenerator = false) (hk : scope.kind = .function) (hcell : ∀ x ∈ scope.names, x.2 ≠ .cell) (hfr : A.frames = some l) (F : FramesOk l h)
    (go : ∀ L h1, Bd h L [] h1 → Falls PR w (A.deeper (envX qual scope L f (.ref c') cl)) (eval body (envX qual scope L f (.ref c') cl)) h1 fun e h' => Rose (envX qual scope L f (.ref c') cl) l h h' e) : Falls PR w A (call (.ref f) [] []) h fun e h' => Fly l h h' e := fun s Q E e q => by
  subst e
  obtain ⟨p, loose, mg, mb, T⟩ := B.top
  refine wpAny_call (kla_callFunE hroom ho rfl hco hgen rfl hcd ?_)
  rw [hbind]
  refine wpAny_pure (wpAny_newFunctionEnv hcell (fun _ hx => nomatch hx) (fun h₁ hns hsb => ⟨T.nolimit.fresh _ hsb, ?_⟩) hk)
  show codeAny _ _ (.expr body (envX qual scope s.heap.objs.size f (.ref c') cl)) _ _
  have hk₁ : ∀ b o, s.heap.get? b = some o → h₁.get? b = some o := fun b o e => hsb.extBut b o (Nat.ne_of_lt (Heap.lt_size e)) (Heap.get?_push_of_some _ e)
  have own : s.heap.get? s.heap.objs.size = none := fresh_size (Nat.le_refl _)
  refine kla_codeExpr (go s.heap.objs.size h₁ ⟨⟨_, hns, fun _ _ e => nomatch e⟩, hk₁, own⟩ _ _ _ rfl fun x h' tk r => ?_)
  exact leave_fly (env := envX qual scope s.heap.objs.size f (.ref c') cl) (Around.frames_deeper hfr) rfl hk F r fun h'' fl => q x h'' tk fl
theorem Fs.expr {x : Expr} {pos : Pos} {rest : List Stmt} (d : Falls PR w A (eval x env) h P) (hi : interactive env = false := by rfl) (hw : swapsWith x none pos.line env = pure false := by rfl) : Falls PR w A (execs (.Expr x pos :: rest) env) h P := fun s Q E e q =>
  wpAny_execs_cons (wpAny_Expr (d s _ E e q) hi hw)
theorem FalCallName0 {x : Str} {np pos : Pos} {f : Addr} {o : Obj} {fd : FuncData} (d : Pe PR w A (.Name x np) env h (.ref f)) (ho : h.get? f = some o) (hd : o.data = .func fd) (k : Falls PR w A (call (.ref f) [] []) h P) : Falls PR w A (eval (.Call (.Name x np) [] [] pos) env) h P := fun s Q E e q =>
  wpAny_Call_NameR (d s _ E e fun u h1 tk p => by
    obtain ⟨rfl, rfl⟩ := p
    refine callWith_of (P := fun g => g.get? f = some o) rfl (fun g hg => ⟨.frame, .inl rfl, (Looks.ld (part := none) hg).andThen (by rw [hd]; exact .now)⟩) (evalArgs_nil3 ⟨ho, k _ Q E rfl q⟩))
end
section
variable {PR : Program} {w : World} {A : Around} {env : Env} {h : Heap} {P : Addr → Heap → Prop} {R : Flow → Heap → Prop}
-- a try whose body falls; the handler returns
theorem Ds.tryFall {body : List Stmt} {h₀ : ExceptHandler} {hs : List ExceptHandler} {pos : Pos} {rest : List Stmt} (d : Falls PR w A (execs body env) h P)
    (k : ∀ e h' (s : Shared) (Q : Flow → Shared → Prop) (E : Value → Shared → Prop), P e h' → s.heap = h' → (∀ v h'' tk, R (.ret v) h'' → Q (.ret v) { s with heap := h'', toks := tk }) →
      wpAny (model PR w) A (noteFrame (.ref e) env) (fun _ s₂ => wpAny (model PR w) A (setFlight (.ref e) none) (fun _ s₃ => wpAny (model PR w) A (handleBy (.ref e) env (h₀ :: hs)) Q E s₃) E s₂) E s) :
    Do PR w A (execs (.Try body (h₀ :: hs) [] [] pos :: rest) env) h R := fun s Q E e q =>
  wpAny_execs_cons (wpAny_Try_except (d s _ _ e fun x h' tk p => k x h' _ _ _ p rfl fun v h'' tk' r => q (.ret v) h'' tk' r))
end
-- all but the frames at work stands, and of these all but their slots
noncomputable def Held (l : List Env) (h h' : Heap) : Prop := (hideAll h (zs l)).StaysIn h' ∧ h.UpToSlots h'
theorem Ok.held {w : World} {l : List Env} {h h' : Heap} (B : Ok (KP w.params) h) (k : (hideAll h (zs l)).StaysIn h') (zhi : ∀ a ∈ zs l, 254 ≤ a) : Ok (KP w.params) h' :=
  B.low fun b o hb e => k b o (hideAll_get _ e fun q => absurd (zhi b q) (Nat.not_le.mpr hb))
section
variable {w : World} {A : Around} {h : Heap} {l : List Env}
theorem fell_spec {lam : Addr} {o : Obj} {fd : FuncData} (B : Ok (KP w.params) h) (lw : Lw A 6) (hfr : A.frames = some l) (F : FramesOk l h) (zhi : ∀ a ∈ zs l, 254 ≤ a) (ho : h.get? lam = some o) (hd : o.data = .func fd)
    (fall : ∀ A' l' h1, h.StaysIn h1 → A'.frames = some l' → FramesOk l' h1 → Lw A' 5 → Falls PR w A' (call (.ref lam) [] []) h1 fun e h' => Fly l' h1 h' e) :
    Do PR w A (call (.ref 222) [.ref lam] []) h fun v h' => v = .bool true ∧ Held l h h' := by
  refine' DoDef (args := ⟨[.ref lam], []⟩) (binds := [("call", .ref lam)]) (l := [("call", .ref lam)]) B ?ho ?hcd lw.ar.room ?hb ?hloc (.cons rfl .nil) ?c2 ?c3 ?c4 ?c5 ?go
  case ho => (first | (with_reducible apply Mine.kp_look; (focus k_is); decide) | (with_reducible apply Mine.kp_ns; (focus k_is); decide) | kernel_rfl)
  case hcd => (first | (with_reducible apply Mine.kp_look; (focus k_is); decide) | (with_reducible apply Mine.kp_ns; (focus k_is); decide) | kernel_rfl)
  case hb => exact fun _ _ => BindsTo.of_eq rfl
  case hloc => exact locs rfl
  case c2 => rfl
  case c3 => rfl
  case c4 => rfl
  case c5 => decide
  case go =>
    intro L h1 b
    have B1 := B.keeps b.st
    refine Ds.tryFall (Fs.expr (FalCallName0 (Pe.loc (d := .ref lam) b.lo rfl) (b.st _ _ ho) hd (fall _ _ h1 b.st (Around.frames_deeper hfr) (framesOk_push (env := envOf _ _ L _ _) rfl rfl b F) lw.deeper))) ?_
    intro e h' s Q E fl es q
    subst es
    obtain ⟨a0, hfl, up⟩ := fl
    refine wpAny_looks_onW (Around.frames_deeper hfr) rfl hfl fun h₄ hheld₄ hsm₄ => ?_
    refine wpAny_landsW hheld₄ fun h₅ hheld hsm₅' => ?_
    obtain ⟨nm, qn, N, bs, sn, sub, ab, col, dd, k0, k1, k2, k3, k5, hC0⟩ := cls52 (P := w.params)
    have st5 := fun c o (e : (hideAll h (zs l)).get? c = some o) => hheld.1 c o (base_push (env := envOf _ _ L _ _) rfl b c o e)
    have B5 := B.held st5 zhi
    obtain ⟨ob, hob, hobc⟩ := hheld.there
    refine wpAny_handleBy_cons (codeAny_handlers_test ((Pe.glob (d := .ref 52) B5 gl_MachineFault rfl) _ _ _ rfl fun u h1' tk' p => ?_)) (by intro q; cases q)
    obtain ⟨rfl, rfl⟩ := p
    refine wpAny_excMatches_sub_self (B5.k _ _ hC0) hob hobc (by decide +kernel) (codeAny_handlers_suite ?_)
    refine lands_againW hheld fun h₆ hfl₆ hsm₆ => ?_
    refine (Ds.ret (rest := []) (R := fun f h' => f = .ret (.bool true) ∧ h' = h₆) (Pe.bool.mono fun v h' p => ⟨by rw [p.2], p.1⟩)) _ _ _ rfl fun f h' tk2 p => ?_
    obtain ⟨rfl, rfl⟩ := p
    exact q _ _ _ ⟨rfl, fun c o e => hfl₆.1 _ _ (base_push (env := envOf _ _ L _ _) rfl b _ _ e), ((((Heap.UpToSlots.of_keeps b.st).trans up).trans hsm₄).trans hsm₅').trans hsm₆⟩
end
end Mine
end

-- World4
section
open PySem PySem.W PySem.Calls PyProof.Rows PySem.Spec PySem.SeqAt
set_option tactic.hygienic false
namespace Mine
-- the table of _law_deed's lambdas
noncomputable def TabS (h : Heap) : Prop := X1 (fun (ps : Array Value) => C3 (h.get? 229 = some (tabObj ps)) (TriplesOk ps.toList) (∀ pos cv, codeAmong pos ps.toList = some cv → h.CodeRec cv "_law_deed.<locals>.<lambda>"))
-- these objects are lists or dicts
noncomputable def Soft (h : Heap) (X : List Addr) : Prop := ∀ b ∈ X, X1 (fun o => C3 (h.get? b = some o) (o.cls ≠ .type "tuple") (∀ vs, o.data ≠ .fields vs))
theorem soft_list {h : Heap} {a : Addr} {items : Array Value} (x : h.IsList a items) : X1 (fun o => C3 (h.get? a = some o) (o.cls ≠ .type "tuple") (∀ vs, o.data ≠ .fields vs)) := by
  obtain ⟨o, e, c, n, d⟩ := x
  exact ⟨o, e, by rw [c]; simp, fun vs q => by rw [d] at q; cases q⟩
theorem soft_dict {h : Heap} {a : Addr} {es : List DictEntry} {n : Nat} (x : h.get? a = some (dictOf es n)) : X1 (fun o => C3 (h.get? a = some o) (o.cls ≠ .type "tuple") (∀ vs, o.data ≠ .fields vs)) :=
  ⟨_, x, by simp, fun vs q => by cases q⟩
section
variable {P : Params} {h h' : Heap} {X : List Addr}
theorem Off.tups (k : Off X h h') (s : Soft h X) : Tups h h' := fun b vs n e => k b _ e fun q => by
  obtain ⟨o, e', c, _⟩ := s b q
  rw [e] at e'; cases e'; exact c rfl
theorem TabS.off (x : TabS h) (k : Off X h h') (s : Soft h X) : TabS h' := by
  obtain ⟨ps, e, t, c⟩ := x
  have no : ∀ {b : Addr} {o : Obj} {vs : Array Value}, h.get? b = some o → o.data = .fields vs → b ∉ X := fun e d q => by
    obtain ⟨o', e', _, f⟩ := s _ q
    rw [e] at e'; cases e'; exact f _ d
  refine ⟨ps, k _ _ e (no e rfl), t, fun pos cv q => ?_⟩
  obtain ⟨a, o, vs, u, rfl, e1, d1, r⟩ := c pos cv q
  exact ⟨a, o, vs, u, rfl, k _ _ e1 (no e1 d1), d1, r⟩
theorem Src.off {src : Addr} {x y : Int} (S : Src h src x y) (k : Off X h h') (n : src ∉ X) : Src h' src x y := let ⟨ta, tb, l⟩ := S.l; ⟨S.hi, ⟨ta, tb, IsList_off l k n⟩, S.a0, S.b0, S.b1⟩
theorem RowAt.off {a : Addr} {r : Row} (x : RowAt h a r) (k : Off X h h') (s : Soft h X) (n : a ∉ X) : RowAt h' a r := let ⟨ts, wv, av, l, hw, ha⟩ := x; ⟨ts, wv, av, IsList_off l k n, hw.off (k.tups s), ha⟩
theorem RowsAt.off {R : Addr} {rs : List Addr} {rows : List Row} (x : RowsAt h R rs rows) (k : Off X h h') (s : Soft h X) (n : ∀ b ∈ R :: rs, b ∉ X) : RowsAt h' R rs rows :=
  ⟨x.rlp.at fun o e => k _ o e (n _ (.head _)), x.len, fun i a r h1 h2 => (x.ro i a r h1 h2).off k s (n _ (.tail _ (List.mem_of_getElem? h1))), x.nd⟩
-- a list that the scheduler does not know has changed
theorem Sched.onList {S dS C dC DG AL : Addr} {gs ds : List Addr} {grs : List Row} {here : Option Nat} {digits : List Int} {taken : Int} (x : Sched P h S dS C dC DG AL gs ds grs here digits taken) {a : Addr} {items : Array Value} (k : But a h h') (ha : h.IsList a items) (n1 : a ≠ AL) (n2 : a ≠ DG) :
    Sched P h' S dS C dC DG AL gs ds grs here digits taken := by
  obtain ⟨oa, ea, ca, _⟩ := id ha
  have no : ∀ {b : Addr} {o : Obj}, h.get? b = some o → o.cls ≠ .type "list" → b ≠ a := fun e hc q => by subst q; rw [ea] at e; cases e; exact hc ca
  refine ⟨?_, ?_, ?_, k.plain (Ne.symm n1) x.alp, x.lg, x.ld, fun i g d r h1 h2 h3 => (x.go i g d r h1 h2 h3).onList k ha, x.ap, x.lo⟩
  · obtain ⟨t1, t2, t3, n, I⟩ := x.s
    exact ⟨t1, t2, t3, n, k.inst (no I.o (by first | exact List.mem_append_left _ (.head _) | exact List.mem_append_left _ (.tail _ (.head _)) | exact List.mem_append_left _ (.tail _ (.tail _ (.head _))) | exact List.mem_append_left _ (.tail _ (.tail _ (.tail _ (.head _)))) | exact .head _ | exact .tail _ (.head _) | simp)) (no I.d (by first | exact List.mem_append_left _ (.head _) | exact List.mem_append_left _ (.tail _ (.head _)) | exact List.mem_append_left _ (.tail _ (.tail _ (.head _))) | exact List.mem_append_left _ (.tail _ (.tail _ (.tail _ (.head _)))) | exact .head _ | exact .tail _ (.head _) | simp)) I⟩
  · obtain ⟨t1, t2, t3, n, I⟩ := x.c
    exact ⟨t1, t2, t3, n, k.inst (no I.o (by first | exact List.mem_append_left _ (.head _) | exact List.mem_append_left _ (.tail _ (.head _)) | exact List.mem_append_left _ (.tail _ (.tail _ (.head _))) | exact List.mem_append_left _ (.tail _ (.tail _ (.tail _ (.head _)))) | exact .head _ | exact .tail _ (.head _) | simp)) (no I.d (by first | exact List.mem_append_left _ (.head _) | exact List.mem_append_left _ (.tail _ (.head _)) | exact List.mem_append_left _ (.tail _ (.tail _ (.head _))) | exact List.mem_append_left _ (.tail _ (.tail _ (.tail _ (.head _)))) | exact .head _ | exact .tail _ (.head _) | simp)) I⟩
  · obtain ⟨vs, l, i⟩ := x.dg
    exact ⟨vs, k.list (Ne.symm n2) l, i⟩
end
-- where the law's things are
structure Ad where
  src : Addr
  S : Addr
  dS : Addr
  C : Addr
  dC : Addr
  DG : Addr
  AL : Addr
  R : Addr
-- the law's things: what is drawn from, the scheduler (grs), its own rows (rows)
structure Wd (P : Params) (h : Heap) (a : Ad) (gs ds rs : List Addr) (x y : Int) (grs rows : List Row) (here : Option Nat) (digits : List Int) (taken : Int) : Prop where
  src : Src h a.src x y
  sc : Sched P h a.S a.dS a.C a.dC a.DG a.AL gs ds grs here digits taken
  rw : RowsAt h a.R rs rows
  nd : (a.src :: a.AL :: a.DG :: a.R :: rs).Nodup
  hiS : 254 ≤ a.dS
  hiC : 254 ≤ a.dC
  hiA : 254 ≤ a.AL
  hiR : ∀ b ∈ a.R :: rs, 254 ≤ b
  hiD : ∀ b ∈ ds, 254 ≤ b
  tab : TabS h
section
variable {P : Params} {h h' : Heap} {X : List Addr} {a : Ad} {gs ds rs : List Addr} {x y : Int} {grs rows : List Row} {here : Option Nat} {digits : List Int} {taken : Int}
theorem TabS.keeps (x : TabS h) (k : h.StaysIn h') : TabS h' := TabS.off (X := []) x (Off.nil k) fun _ q => nomatch q
theorem Wd.keeps (W : Wd P h a gs ds rs x y grs rows here digits taken) (k : h.StaysIn h') : Wd P h' a gs ds rs x y grs rows here digits taken :=
  ⟨Src.off (X := []) W.src (Off.nil k) (fun q => nomatch q), W.sc.keeps k, W.rw.keeps k, W.nd, W.hiS, W.hiC, W.hiA, W.hiR, W.hiD, W.tab.keeps k⟩
-- the source has changed
theorem Wd.drawn (W : Wd P h a gs ds rs x y grs rows here digits taken) {x' y' : Int} (k : But a.src h h') (new : Src h' a.src x' y') : Wd P h' a gs ds rs x' y' grs rows here digits taken := by
  obtain ⟨ta, tb, l⟩ := W.src.l
  have nd := W.nd
  simp only [List.nodup_cons, List.mem_cons, not_or] at nd
  have s : Soft h [a.src] := fun b hb => by revert b hb; refine Mine.all1 ?_; exact soft_list l
  exact ⟨new, W.sc.onList k l nd.1.1 nd.1.2.1, W.rw.off (Off.one k) s (fun b hb q => by
    rw [List.mem_singleton.mp q] at hb
    rcases List.mem_cons.mp hb with hb | hb
    · exact nd.1.2.2.1 hb
    · exact nd.1.2.2.2 hb), W.nd, W.hiS, W.hiC, W.hiA, W.hiR, W.hiD, W.tab.off (Off.one k) s⟩
-- the scheduler has changed, and nothing else that stood
theorem Wd.ruled (W : Wd P h a gs ds rs x y grs rows here digits taken) {gs' ds' : List Addr} {grs' : List Row} {here' : Option Nat} {taken' : Int} (k : Off X h h') (s : Soft h X) (n : ∀ b ∈ X, b ∉ a.src :: a.R :: rs) (new : Sched P h' a.S a.dS a.C a.dC a.DG a.AL gs' ds' grs' here' digits taken')
    (hd : ∀ b ∈ ds', 254 ≤ b) : Wd P h' a gs' ds' rs x y grs' rows here' digits taken' :=
  ⟨W.src.off k (fun q => n _ q (.head _)), new, W.rw.off k s (fun b hb q => n _ q (.tail _ hb)), W.nd, W.hiS, W.hiC, W.hiA, W.hiR, hd, W.tab.off k s⟩
-- one of the law's own lists has changed
theorem Wd.told (W : Wd P h a gs ds rs x y grs rows here digits taken) {rs' : List Addr} {rows' : List Row} {r : Addr} {items : Array Value} (k : But r h h') (hl : h.IsList r items) (hr : r ∈ a.R :: rs) (new : RowsAt h' a.R rs' rows') (nd : (a.src :: a.AL :: a.DG :: a.R :: rs').Nodup) (hi : ∀ b ∈ rs', 254 ≤ b) :
    Wd P h' a gs ds rs' x y grs rows' here digits taken := by
  have nd' := W.nd
  simp only [List.nodup_cons, List.mem_cons, not_or] at nd'
  have s : Soft h [r] := fun b hb => by revert b hb; refine Mine.all1 ?_; exact soft_list hl
  have k1 : Off [r] h h' := fun b o e hb => k b o (fun q => hb (by first | exact List.mem_cons.mpr (.inl q) | exact List.mem_cons_of_mem _ (List.mem_singleton.mpr q) | simp [q])) e
  have ne : ∀ b, b ≠ a.R → b ∉ rs → r ≠ b := fun b h1 h2 q => by
    subst q
    rcases List.mem_cons.mp hr with q | q
    · exact h1 q
    · exact h2 q
  exact ⟨W.src.off k1 (fun q => ne _ nd'.1.2.2.1 nd'.1.2.2.2 (List.mem_singleton.mp q).symm), W.sc.onList k hl (ne _ nd'.2.1.2.1 nd'.2.1.2.2) (ne _ nd'.2.2.1.1 nd'.2.2.1.2), new, nd, W.hiS, W.hiC, W.hiA, fun b hb => by
    revert b hb; refine Mine.allc ?_ fun b hb => ?_
    · exact W.hiR _ (.head _)
    · exact hi _ hb, W.hiD, W.tab.off k1 s⟩
end
end Mine
end

-- Slice
section
open PySem PySem.W PySem.Calls PyProof.Rows
set_option tactic.hygienic false
namespace Mine
section
variable {prog : Program} {w : World} {A : Around} {E : Value → Shared → Prop} {s : Shared}
theorem wp_to {α : Type} {M : Model} {t t' : Sem α} {Q : α → Shared → Prop} (h : t = t') (x : wpAny M A t' Q E s) : wpAny M A t Q E s := h ▸ x
theorem wpAny_setItem_slice2 {l sl new : Addr} {a b c x y : Value} {t : Tok} {Q : Unit → Shared → Prop} (hl : s.heap.IsList l #[a, b, c]) (hs : s.heap.IsSliceOf sl .none (.int 2 t) .none) (hn : s.heap.IsList new #[x, y]) (hne : l ≠ new)
    (hQ : ∀ h', h'.IsList l #[x, y, c] → Heap.SameBut l s.heap h' → Q () { s with heap := h' }) : wpAny (model prog w) A (setItem (.ref l) (.ref sl) (.ref new)) Q E s := by
  obtain ⟨o, ho, hc, ne, hd⟩ := id hl
  obtain ⟨o2, ho2, hc2, ne2, hd2⟩ := id hn
  obtain ⟨os, hos, hcs, hds⟩ := id hs
  have hTs : s.TypeIs (.ref sl) "slice" := ⟨os, hos, hcs⟩
  have hTn : s.TypeIs (.ref new) "list" := ⟨o2, ho2, hc2⟩
  unfold setItem
  try with_reducible refine wpAny_holding ?_
  first | refine wpAny_bind (wpAny_pure ?_) | skip
  refine wpAny_bind (wpAny_sequenceKey hl.typeIs (by decide) ?_)
  refine wpAny_bind (wpAny_callSpecial?_slot (name := Str.ofString "__setitem__") hl.typeIs slot_list_setitem
    (wpAny_call_entry slot_list_setitem hl.typeIs entry_list_setitem ?_ (args_list_setitem _ _ _)))
  show wpAny _ _ (Builtin.List.listSubscript? (.ref sl) >>= _) _ _ s
  refine wpAny_bind ?_
  refine wpAny_bind (wpAny_specialOf hTs slice_no_index ?_)
  simp only [Option.isNone_none, if_true]
  refine wpAny_pure ?_
  show wpAny _ _ (typeOf (.ref sl) >>= _) _ _ s
  refine wpAny_bind (wpAny_typeOf hTs ?_)
  refine wp_to (if_neg (by decide)) ?_
  refine wpAny_bind (wp_to (listSliceParts_eq _) ?_)
  have pn : IsPart Value.none none := .none
  have p2 : IsPart (Value.int 2 t) (some 2) := .int 2 t
  refine wpAny_bind (wpAny_field hos hds (x := Value.none) rfl (wpAny_bind (wpAny_listPart pn ?_)))
  refine wp_to (if_neg (show ¬ ((rawPart none == rawInt 0) = true) from Bool.false_ne_true)) ?_
  refine wpAny_bind (wpAny_field hos hds (x := Value.none) rfl (wpAny_bind (wpAny_listPart pn ?_)))
  refine wpAny_bind (wpAny_field hos hds (x := Value.int 2 t) rfl (wpAny_bind (wpAny_listPart p2 (wpAny_pure ?_))))
  refine wp_to (if_neg (show ¬ ((Builtin.List.listSameRef (Value.ref l) (Value.ref new)) = true) from by simpa [Builtin.List.listSameRef] using hne)) ?_
  refine wpAny_bind (m := Builtin.List.listAllItems (.ref new) _) ?_
  refine wpAny_bind (wpAny_typeOf hTn ?_)
  refine wp_to (if_pos (by decide)) ?_
  refine wpAny_bind (wpAny_seqItems ho2 hd2 (wpAny_pure ?_))
  refine wpAny_bind (wpAny_bind (wpAny_seqItems ho hd (wpAny_pure ?_)))
  refine wpAny_bind (wpAny_of_eq (sliceIndices_raw none (some 2) none 3 (by decide)) ?_)
  have e : sliceBounds none (some 2) none 3 = (0, 2, 1) := by decide
  rw [e]
  dsimp only
  refine wp_to (if_pos (by decide)) ?_
  refine wpAny_bind (wpAny_rule ?_)
  refine wp_to (if_neg (show ¬ (Builtin.List.listTooLong _ = true) from by unfold Builtin.List.listTooLong sizeLine; simp)) ?_
  have hf : (#[a, b, c].extract 0 (0 : Int).toNat ++ #[x, y] ++ #[a, b, c].extract (max (0 : Int) 2).toNat 3) = #[x, y, c] := by rw [show (max (0 : Int) 2).toNat = 2 from by decide]; simp
  obtain ⟨n', hd'⟩ := Obj.data_mapSeq hd (fun xs => xs.extract 0 (0 : Int).toNat ++ #[x, y] ++ xs.extract (max (0 : Int) 2).toNat xs.size)
  have hfin : (s.heap.update l (Obj.mapSeq (fun xs => xs.extract 0 (0 : Int).toNat ++ #[x, y] ++ xs.extract (max (0 : Int) 2).toNat xs.size))).IsList l #[x, y, c] :=
    ⟨_, Heap.get?_update_self _ ho (Obj.isFreed_of_seq hd'), (Obj.cls_mapSeq ..).trans hc, n', hd'.trans (by rw [show (#[a, b, c].size) = 3 from rfl, hf])⟩
  refine wpAny_bind (m := Builtin.List.listUpdate (.ref l) _) ?_
  refine wpAny_updateSeq ho hd ?_ (by unfold sizeLine; simp) (by rw [show (#[a, b, c].size) = 3 from rfl, hf]; unfold sizeLine; simp)
  refine wpAny_bind (wpAny_letGo ?_)
  first
    | exact wpAny_bind (wpAny_pure (wpAny_pure ⟨.none, rfl, wpAny_pure (hQ _ hfin (Heap.SameBut.update ..))⟩))
    | exact wpAny_pure ⟨.none, rfl, wpAny_pure (hQ _ hfin (Heap.SameBut.update ..))⟩
end
end Mine
end

-- Store
section
open PySem PySem.W PySem.Calls PyProof.Rows
set_option tactic.hygienic false
namespace Mine
section
variable {prog : Program} {w : World} {A : Around} {E : Value → Shared → Prop} {s : Shared}
-- an item of a plain list changed: the list stays plain
theorem wpAny_setItem_flat {l : Addr} {items : Array Value} {k : Int} {t : Tok} {v : Value} {Q : Unit → Shared → Prop} (hl : s.heap.PlainList l items) (h0 : 0 ≤ k) (hz : k < 2 ^ 63) (hn : k < items.size)
    (hQ : ∀ h', h'.PlainList l (items.setIfInBounds k.toNat v) → Heap.SameBut l s.heap h' → Q () { s with heap := h' }) : wpAny (model prog w) A (setItem (.ref l) (.int k t) v) Q E s := by
  obtain ⟨n, ho⟩ := id hl
  have hT := hl.isList.typeIs
  unfold setItem
  try with_reducible refine wpAny_holding ?_
  first | refine wpAny_bind (wpAny_pure ?_) | skip
  refine wpAny_bind (wpAny_sequenceKey hT (by decide) ?_)
  refine wpAny_bind (wpAny_callSpecial?_slot (name := Str.ofString "__setitem__") hT slot_list_setitem (wpAny_call_entry slot_list_setitem hT entry_list_setitem ?_ (args_list_setitem _ _ _)))
  show wpAny _ _ (Builtin.List.listSubscript? (.int k t) >>= _) _ _ s
  refine wpAny_bind (wpAny_listSubscript_int (fitsIndex_of h0 hz) ?_)
  clear hz
  obtain ⟨j, rfl⟩ := Int.eq_ofNat_of_zero_le h0
  have hj : j < items.size := by omega
  have hx : items[j]? = some items[j] := Array.getElem?_eq_getElem hj
  show wpAny _ _ ((seqItemAt l j >>= fun r => pure (r.map (j, ·))) >>= _) _ _ s
  refine wpAny_bind (wpAny_bind (wpAny_seqItemAt ho rfl (wpAny_pure ?_)))
  rw [hx]
  show wpAny _ _ (setSeqItemAt l j v >>= _) _ _ s
  have fin : (s.heap.update l (Obj.mapSeq (·.setIfInBounds j v))).PlainList l (items.setIfInBounds j v) := ⟨_, Heap.get?_update_self _ ho rfl⟩
  refine wpAny_bind (wpAny_setSeqItemAt ho rfl ?_)
  first
    | exact wpAny_bind (wpAny_pure (wpAny_pure ⟨.none, rfl, wpAny_pure (hQ _ fin (Heap.SameBut.update ..))⟩))
    | exact wpAny_pure ⟨.none, rfl, wpAny_pure (hQ _ fin (Heap.SameBut.update ..))⟩
end
section
variable {PR : Program} {w : World} {A : Around} {env : Env} {h : Heap} {K : Frag} {R : Flow → Heap → Prop}
theorem DoSetItemFlat {l : Addr} {items : Array Value} {k : Int} {t : Tok} {v : Value} (hl : h.PlainList l items) (h0 : 0 ≤ k) (hz : k < 2 ^ 63) (hn : k < items.size) :
    Do PR w A (setItem (.ref l) (.int k t) v) h fun _ h' => h'.PlainList l (items.setIfInBounds k.toNat v) ∧ Heap.SameBut l h h' := fun s Q E e q => by
  subst e
  exact wpAny_setItem_flat hl h0 hz hn fun h' a b => q () h' s.toks ⟨a, b⟩
theorem DoSetSlice2 {l sl new : Addr} {a b c x y : Value} {t : Tok} (hl : h.IsList l #[a, b, c]) (hs : h.IsSliceOf sl .none (.int 2 t) .none) (hn : h.IsList new #[x, y]) (hne : l ≠ new) :
    Do PR w A (setItem (.ref l) (.ref sl) (.ref new)) h fun _ h' => h'.IsList l #[x, y, c] ∧ Heap.SameBut l h h' := fun s Q E e q => by
  subst e
  exact wpAny_setItem_slice2 hl hs hn hne fun h' a b => q () h' s.toks ⟨a, b⟩
theorem DoSlice2 {k : Nat} {cp sp : Pos} : Do PR w A (eval (.Slice none (some (.Constant (.int 2) k cp)) none sp) env) h fun v h' => h.StaysIn h' ∧ X2 (fun sl t => v = .ref sl ∧ h'.IsSliceOf sl .none (.int 2 t) .none) := fun s Q E e q => by
  subst e
  refine wpAny_Slice (wpAny_evalPart_none (wpAny_evalPart_some (wpAny_Constant_int (wpAny_evalPart_none ?_))))
  exact q _ _ _ ⟨fun b o e => Heap.get?_push_of_some _ e, _, _, rfl, Heap.IsSliceOf.new ..⟩
-- x, o[i] = a pair
theorem DsAssignPair {x : Str} {px ps tp pos : Pos} {o i value : Expr} {kk : Nat} {rest : List Stmt} {P : Value → Heap → Prop} {P6 : Heap → Prop} (hh : A.handled = none) (dv : Do PR w A (eval value env) h P)
    (k : ∀ v h1, P v h1 → X3 (fun T v1 v2 => C3 (v = .ref T) (h1.IsTuple T #[v1, v2]) (∀ h2, h1.StaysIn h2 → Do PR w A (storeName env x v1) h2 fun _ h3 => Do PR w A (eval o env) h3 fun ov h4 => ∃ (T' : Value → Heap → Prop), Do PR w A (eval i env) h4 T' ∧ ∀ iv h5, T' iv h5 → Do PR w A (setItem ov iv v2) h5 fun _ h6 => P6 h6)))
    (go : ∀ h6, P6 h6 → Do PR w A (execs rest env) h6 R)
    (hs : swapsWithSole [.Tuple [.Name x px, .Subscript o i ps] kk tp] value pos.line env = pure false := by rfl) (hw : swappedStores [.Tuple [.Name x px, .Subscript o i ps] kk tp] value env = pure none := by rfl) :
    Do PR w A (execs (.Assign [.Tuple [.Name x px, .Subscript o i ps] kk tp] value pos :: rest) env) h R := fun s Q E e q => by
  refine wpAny_execs_cons (Assign_Tuple (dv s _ E e fun v h1 tk p => ?_) hs hw)
  obtain ⟨T, v1, v2, rfl, hT, k⟩ := k v h1 p
  refine wpAny_assign_Tuple hh hT rfl rfl fun h2 x2 => ?_
  show wpAny _ A (do holding [v2] (assign (.Name x px) env v1); holding [] (assign (.Subscript o i ps) env v2); pure ()) _ _ _
  refine wpAny_bind (wpAny_holding (assign_Name (k h2 (fun b o e => x2 b o (Nat.ne_of_lt (Heap.lt_size e)) e) _ _ E rfl fun _ h3 tk3 p3 => ?_)))
  rw [assign_Subscript]
  refine wpAny_bind (wpAny_bind (wpAny_holding (p3 _ _ E rfl fun ov h4 tk4 p4 => ?_)))
  obtain ⟨T', di, ds⟩ := p4
  refine wpAny_bind (wpAny_holding (di _ _ E rfl fun iv h5 tk5 p5 => wpAny_bind (wpAny_standAt (wpAny_bind (wpAny_holding (ds iv h5 p5 _ _ E rfl fun _ h6 tk6 p6 => ?_))))))
  refine wpAny_release' ?_
  exact wpAny_pure (go h6 p6 _ Q E rfl fun v h' tk r => q v h' tk r)
end
end Mine
end

-- Lam3
section
open PySem PySem.W PySem.Calls PyProof.Rows PySem.Spec PySem.SeqAt
set_option tactic.hygienic false
namespace Mine
theorem among_snoc {pos : Pos} {a b : Int} {c cv : Value} (l : List Value) (h : TriplesOk l) (e : codeAmong pos (l ++ [rawInt a, rawInt b, c]) = some cv) : codeAmong pos l = some cv ∨ cv = c := by
  fun_induction TriplesOk l with
  | case1 =>
    simp only [List.nil_append, rawInt, codeAmong] at e
    split at e
    · exact .inr (Option.some.inj e).symm
    · cases e
  | case2 x t y u z rest ih =>
    simp only [List.cons_append, codeAmong] at e ⊢
    split at e
    · rename_i q
      rw [if_pos q]
      exact .inl e
    · rename_i q
      rw [if_neg q]
      exact ih h e
  | case3 l h1 h2 => exact h.elim
theorem triples_second {l : List Value} (h : TriplesOk l) {x : Str} {t : Tok} (e : l[1]? = some (.str x t)) : False := by
  fun_induction TriplesOk l with
  | case1 => simp at e
  | case2 x t y u z rest ih => simp at e
  | case3 l h1 h2 => exact h
theorem code_deed {P : Params} : ∃ oc, List.lookup 233 (KP P) = some oc ∧ X8 (fun vs file tf flags tg inF text tt => C8 (oc.cls = .type "code") (oc.data = .fields vs) (vs[11]? = some (.ref 229)) (vs.getD 11 .none = .ref 229) (vs.getD 18 .none = .str file tf) (vs.getD 7 .none = .int flags tg) (vs.getD 9 .none = .bool inF) (vs.getD 10 .none = .int text tt)) := ⟨_, by (first | (with_reducible apply Mine.kp_look; (focus k_is); decide) | (with_reducible apply Mine.kp_ns; (focus k_is); decide) | kernel_rfl), _, _, _, _, _, _, _, _, rfl, rfl, rfl, rfl, rfl, rfl, rfl, rfl⟩
theorem bmod {P : Params} : X1 (fun o => C4 (List.lookup 4 (KP P) = some o) (o.cls = .type "module") (o.dict = some builtinsNs) (o.data = .plain)) := ⟨_, by (first | (with_reducible apply Mine.kp_look; (focus k_is); decide) | (with_reducible apply Mine.kp_ns; (focus k_is); decide) | kernel_rfl), rfl, rfl, rfl⟩
theorem gl_bmod {P : Params} : nsIn (KP P) mainGlobals "__builtins__" = some (some (.ref 4)) := by (first | (with_reducible apply Mine.kp_look; (focus k_is); decide) | (with_reducible apply Mine.kp_ns; (focus k_is); decide) | kernel_rfl)
theorem builtins_at {w : World} {h : Heap} {mg : Str → Option Value} (B : (KP w.params).In h) (hg : h.Ns mainGlobals mg) : h.BuiltinsAt mg 229 := by
  obtain ⟨o, e, r1, r2, r3⟩ := bmod (P := w.params)
  exact ⟨4, o, mg_of B hg gl_bmod, by decide, by decide, by decide, B _ _ e, r1, r2, r3⟩
theorem codeHd {w : World} {h : Heap} (B : (KP w.params).In h) : CodeHd h 233 229 := by
  obtain ⟨o, e, vs, file, tf, flags, tg, inF, text, tt, r1, r2, r3, r4, r5, r6, r7, r8⟩ := code_deed (P := w.params)
  exact ⟨o, vs, file, tf, flags, tg, inF, text, tt, B _ _ e, r1, r2, r3, r4, r5, r6, r7, r8, by decide⟩
noncomputable abbrev lamQ : Str := "_law_deed.<locals>.<lambda>"
-- a lambda of _law_deed is made; W: what is hidden
theorem DoLam {w : World} {A : Around} {h : Heap} {env : Env} {params : Arguments} {body : Expr} {scope : Scope} {pos : Pos} {clos : List (Str × Addr)} {W : List Addr} (B : Ok (KP w.params) h) (TW : TabS (hideAll h W)) (nt : 229 ∉ W) (win : ∀ b ∈ W, ∃ o, h.get? b = some o) (hcode : env.code = .ref 233)
    (hdef : defaultsOf params env = ([], []) := by rfl) (hq : env.qual ++ "<lambda>" = lamQ := by rfl) (hcl : closureFor scope env = pure clos := by rfl) (hge : env.globals = mainGlobals := by rfl) :
    Do PR w A (eval (.Lambda params body scope pos) env) h fun v h' => X4 (fun f pm c' ctv => C6 (v = .ref f) (h.get? f = none) (h'.get? f = some (kla_obj "<lambda>" lamQ params body scope clos pm c' ctv)) (h'.CodeRec (.ref c') lamQ) (TabS (hideAll h' W)) (But 229 h h')) := fun s Q E es q => by
  subst es
  obtain ⟨ps, hPW, ht, hcW⟩ := TW
  have hP := of_hideAll W hPW
  obtain ⟨p, loose, mg, mb, TR⟩ := B.top
  refine kla_eval hdef ?_
  rw [hq]
  cases hf : codeAmong pos ps.toList with
  | none =>
    refine kla_makeFunction (mg := mg) hcl hge TR.g hcode (codeHd B.k) hP ht hf (by decide) (builtins_at B.k TR.g) fun c' ctv h' tk hx h1 h2 hrec htab => ?_
    have hsz : s.heap.objs.size ≤ h'.objs.size := Nat.le_trans h1 (Nat.le_of_lt h2)
    have up : ∀ b o, h'.get? b = some o → (h'.push (kla_obj "<lambda>" lamQ params body scope clos ((mg "__name__").getD .none) c' ctv)).get? b = some o := fun b o e => Heap.get?_push_of_some _ e
    refine q _ _ _ ⟨_, _, c', ctv, rfl, fresh_size hsz, Heap.get?_push_size _ rfl, hrec.keeps up, ⟨_, hideAll_get _ (up _ _ htab) nt, ?_, ?_⟩, fun c o hc e => up _ _ (hx c o hc e)⟩
    · simpa using TriplesOk_snoc pos.line pos.col (.ref c') ps.toList ht
    · intro pos' cv e
      rcases among_snoc (pos := pos') ps.toList ht (by simpa using e) with e | rfl
      · obtain ⟨a, o, vs, u, rfl, e1, d1, r⟩ := hcW pos' cv e
        have e1' := of_hideAll W e1
        refine ⟨a, o, vs, u, rfl, hideAll_get _ (up _ _ (hx a o (fun q => ?_) e1')) (hide_no e1), d1, r⟩
        subst q
        rw [hP] at e1'; cases e1'
        cases d1
        exact triples_second ht (by simpa using r)
      · obtain ⟨a, o, vs, u, e0, e1, d1, r⟩ := hrec
        cases e0
        refine ⟨c', o, vs, u, rfl, hideAll_get _ (up _ _ e1) fun z => ?_, d1, r⟩
        obtain ⟨o2, e2⟩ := win c' z
        exact absurd (Heap.lt_size e2) (Nat.not_lt.mpr h1)
  | some cv =>
    obtain ⟨c', o, vs, u, rfl, e1, d1, r⟩ := hcW pos cv hf
    have e1' := of_hideAll W e1
    refine kla_makeFunctionHit (mg := mg) hcl hge TR.g hcode (codeHd B.k) hP ht hf (builtins_at B.k TR.g) fun ctv h' tk hk hsz => ?_
    have up : ∀ b o, s.heap.get? b = some o → (h'.push (kla_obj "<lambda>" lamQ params body scope clos ((mg "__name__").getD .none) c' ctv)).get? b = some o := fun b o e => Heap.get?_push_of_some _ (hk _ _ e)
    exact q _ _ _ ⟨_, _, c', ctv, rfl, fresh_size hsz, Heap.get?_push_size _ rfl, ⟨c', o, vs, u, rfl, up _ _ e1', d1, r⟩, TabS.keeps ⟨ps, hPW, ht, hcW⟩ (stay_hide up), fun c o _ e => up _ _ e⟩
section
variable {PR : Program} {w : World} {A : Around} {env : Env} {h : Heap} {K : Frag}
noncomputable def Holds (l : List (Str × D)) (m : Str → Option Value) : Prop := ∀ x d, l.lookup x = some d → ∃ v, m x = some v ∧ d.Is v
theorem Holds.nil {m : Str → Option Value} : Holds [] m := fun _ _ e => nomatch e
theorem Holds.put {l : List (Str × D)} {m : Str → Option Value} {x : Str} {v : Value} {d : D} (q : Holds l m) (hd : d.Is v) : Holds ((x, d) :: l) (fun y => if y = x then some v else m y) := fun y d' e => by
  rw [List.lookup_cons] at e
  by_cases hy : y = x
  · subst hy; simp at e; subst e; exact ⟨v, by simp, hd⟩
  · have : (y == x) = false := by simpa using hy
    rw [this] at e
    simp only [if_neg hy]
    exact q y d' e
-- a def with cells, called
theorem DoDefX {name qual : Str} {params : Arguments} {body : List Stmt} {scope : Scope} {dV kV doc pm cdv ct oc : Value} {an od : Option Addr} {osl : Array (Option Value)} {f : Addr} {args : PySem.Args} {binds : List (Str × Value)} {l : List (Str × D)} {P : Value → Heap → Prop}
    (B : Ok K h) (ho : K.lookup f = some ⟨oc, od, .func (fnOf name qual params body scope dV kV doc pm an cdv ct), osl⟩) (hcd : codeIn K cdv qual = true) (hroom : A.depth < recursionLimit)
    (hbind : ∀ s : Shared, s.heap = h → BindsTo s (fnOf name qual params body scope dV kV doc pm an cdv ct) args binds)
    (hkind : ∀ n, ∀ x ∈ binds, scope.names.lookup x.1 = some .local ∨ (scope.names.lookup x.1 = some .cell ∧ ((cellsFrom n scope.names []).lookup x.1).isSome = true))
    (hz : ∀ L, Holds l (bindL (envOfC qual scope L f cdv).kindOf binds fun _ => none))
    (hco : scope.isCoroutine = false) (hgen : scope.isGenerator = false) (hk : scope.kind = .function)
    (go : ∀ L h1, Bd h L l h1 → Cl L (cellsFrom (L + 1) scope.names []) h1 (bindC (envOfC qual scope L f cdv).kindOf binds fun _ => none) → L = h.objs.size →
      Do PR w (A.deeper (envOfC qual scope L f cdv)) (execs body (envOfC qual scope L f cdv)) h1 fun fl h' => P (retOf fl) h') : Do PR w A (call (.ref f) args.pos args.kw) h P := fun s Q E e q => by
  subst e
  obtain ⟨p, loose, mg, mb, T⟩ := B.top
  refine wpAny_call (codeAny_call_function hroom (B.k _ _ ho) rfl hco hgen rfl (codeRec_of B.k hcd) (hbind s rfl _ _ _ _ ?_))
  refine wpAny_newFunctionEnv_cells hk (hkind _) fun env' he s' x => ?_
  subst he
  refine ⟨T.nolimit.keeps x.toInCall.keep, codeAny_func ?_⟩
  obtain ⟨h₁, tk, rfl, _⟩ := x.done
  have hk₁ := x.toInCall.keep
  refine go s.heap.objs.size h₁ ⟨⟨_, x.toInCall.ns, hz _⟩, hk₁, fresh_size (Nat.le_refl _)⟩ ⟨x.cell, x.apart, x.above⟩ rfl _ _ _ rfl fun fl h' tk r => ?_
  have := q (retOf fl) h' tk r
  cases fl <;> exact this
end
end Mine
end

-- Room
section
open PySem PySem.W PySem.Calls PyProof.Rows PySem.Spec PySem.SeqAt
set_option tactic.hygienic false
namespace Mine
section
variable {h h' : Heap} {R : Addr} {rs : List Addr} {rows : List Row}
theorem RowsAt.row (x : RowsAt h R rs rows) {b : Addr} (hb : b ∈ rs) : ∃ items, h.IsList b items := by
  obtain ⟨i, hi, e⟩ := List.mem_iff_getElem.mp hb
  have h2 : i < rows.length := by rw [← x.len]; exact hi
  obtain ⟨ts, wv, av, l, _⟩ := x.ro i b rows[i] (by rw [List.getElem?_eq_getElem hi, e]) (List.getElem?_eq_getElem h2)
  exact ⟨_, l⟩
theorem RowAt.but {a d : Addr} {r : Row} (x : RowAt h a r) (k : But d h h') (hd : a ≠ d) (ht : ∀ vs n, h.get? d ≠ some (tupObj vs n)) : RowAt h' a r := by
  obtain ⟨ts, wv, av, l, hw, ha⟩ := x
  exact ⟨ts, wv, av, k.list hd l, hw.off fun b vs n e => k b _ (fun q => ht vs n (q ▸ e)) e, ha⟩
theorem list_notup {d : Addr} {items : Array Value} (x : h.IsList d items) : ∀ vs n, h.get? d ≠ some (tupObj vs n) := fun vs n q => by
  obtain ⟨o, e, c, _⟩ := x
  rw [q] at e; cases e
  exact absurd c (by simp [tupObj])
-- a row changed in place
theorem RowsAt.turn (x : RowsAt h R rs rows) {i : Nat} {a : Addr} {r r' : Row} (ha : rs[i]? = some a) (hr : rows[i]? = some r) (k : But a h h') (new : RowAt h' a r') : RowsAt h' R rs (rows.set i r') := by
  have hi := (List.getElem?_eq_some_iff.mp hr).1
  have nd := x.nd
  rw [List.nodup_cons] at nd
  have hm := List.mem_of_getElem? ha
  obtain ⟨items, hl⟩ := x.row hm
  refine ⟨x.rlp.at fun o e => k _ o (fun q => nd.1 (q ▸ hm)) e, by rw [List.length_set]; exact x.len, fun j b r2 h1 h2 => ?_, x.nd⟩
  by_cases hj : i = j
  · subst hj
    rw [ha] at h1; cases h1
    rw [List.getElem?_set_self hi] at h2; cases h2
    exact new
  · rw [List.getElem?_set_ne hj] at h2
    refine (x.ro j b r2 h1 h2).but k (fun q => hj ?_) (list_notup hl)
    subst q
    exact (List.getElem?_inj (List.getElem?_eq_some_iff.mp ha).1 nd.2).mp (ha.trans h1.symm)
theorem nodup_set {l : List Addr} {n : Addr} {i : Nat} (hl : l.Nodup) (hn : n ∉ l) : (l.set i n).Nodup := by
  induction l generalizing i with
  | nil => simp
  | cons b t ih =>
    rw [List.nodup_cons] at hl
    simp only [List.mem_cons, not_or] at hn
    cases i with
    | zero => rw [List.set_cons_zero, List.nodup_cons]; exact ⟨hn.2, hl.2⟩
    | succ i =>
      rw [List.set_cons_succ, List.nodup_cons]
      refine ⟨fun q => ?_, ih hl.2 hn.2⟩
      rcases List.mem_or_eq_of_mem_set q with q | q
      · exact hl.1 q
      · exact hn.1 q.symm
-- a row replaced
theorem RowsAt.swap (x : RowsAt h R rs rows) {i : Nat} {n : Addr} {r' : Row} (hi : i < rs.length) (hn : n ∉ R :: rs) (k : But R h h') (hl : h'.PlainList R ((rs.map Value.ref).toArray.setIfInBounds i (.ref n))) (new : RowAt h n r') : RowsAt h' R (rs.set i n) (rows.set i r') := by
  have nd := x.nd
  rw [List.nodup_cons] at nd
  simp only [List.mem_cons, not_or] at hn
  refine ⟨by simpa [List.map_set] using hl, by rw [List.length_set, List.length_set]; exact x.len, fun j b r2 h1 h2 => ?_, ?_⟩
  · by_cases hj : i = j
    · subst hj
      rw [List.getElem?_set_self hi] at h1; cases h1
      rw [List.getElem?_set_self (by rw [← x.len]; exact hi)] at h2; cases h2
      exact new.but k hn.1 (list_notup x.rl)
    · rw [List.getElem?_set_ne hj] at h1 h2
      exact (x.ro j b r2 h1 h2).but k (fun q => nd.1 (q ▸ List.mem_of_getElem? h1)) (list_notup x.rl)
  · rw [List.nodup_cons]
    refine ⟨fun q => ?_, ?_⟩
    · rcases List.mem_or_eq_of_mem_set q with q | q
      · exact nd.1 q
      · exact hn.1 q.symm
    · exact nodup_set nd.2 hn.2
-- a row more
theorem RowsAt.more (x : RowsAt h R rs rows) {n : Addr} {r' : Row} (hn : n ∉ R :: rs) (k : But R h h') (hl : h'.PlainList R ((rs.map Value.ref).toArray.push (.ref n))) (new : RowAt h n r') : RowsAt h' R (rs ++ [n]) (rows ++ [r']) := by
  have nd := x.nd
  rw [List.nodup_cons] at nd
  simp only [List.mem_cons, not_or] at hn
  refine ⟨by simpa using hl, by simp [x.len], fun j b r2 h1 h2 => ?_, ?_⟩
  · by_cases hj : j < rs.length
    · have h1 := app_lt hj h1
      have h2 := app_lt (by rw [← x.len]; exact hj) h2
      exact (x.ro j b r2 h1 h2).but k (fun q => nd.1 (q ▸ List.mem_of_getElem? h1)) (list_notup x.rl)
    · have hj' := app_len hj h1
      have e1 := app_eq hj' h1
      have e2 := app_eq (hj'.trans x.len) h2
      subst hj'
      subst e1 e2
      exact new.but k hn.1 (list_notup x.rl)
  · rw [List.nodup_cons]
    refine ⟨by simp only [List.mem_append, List.mem_singleton, not_or]; exact ⟨nd.1, fun q => hn.1 q.symm⟩, List.nodup_append.mpr ⟨nd.2, by simp, fun b hb c hc => ?_⟩⟩
    rw [List.mem_singleton.mp hc]
    exact fun q => hn.2 (q ▸ hb)
end
section
variable {P : Params} {h h' : Heap} {X : List Addr} {a : Ad} {gs ds rs : List Addr} {x y : Int} {grs rows : List Row} {here : Option Nat} {digits : List Int} {taken : Int}
theorem Wd.list (W : Wd P h a gs ds rs x y grs rows here digits taken) {b : Addr} (hb : b ∈ a.src :: a.AL :: a.DG :: a.R :: rs) : ∃ items, h.IsList b items := by
  obtain ⟨ta, tb, l⟩ := W.src.l
  obtain ⟨vs, l2, _⟩ := W.sc.dg
  rcases List.mem_cons.mp hb with rfl | hb
  · exact ⟨_, l⟩
  rcases List.mem_cons.mp hb with rfl | hb
  · exact ⟨_, W.sc.al⟩
  rcases List.mem_cons.mp hb with rfl | hb
  · exact ⟨_, l2⟩
  rcases List.mem_cons.mp hb with rfl | hb
  · exact ⟨_, W.rw.rl⟩
  exact W.rw.row hb
theorem Wd.new (W : Wd P h a gs ds rs x y grs rows here digits taken) {n : Addr} (hn : h.get? n = none) : n ∉ a.src :: a.AL :: a.DG :: a.R :: rs := fun q => by
  obtain ⟨items, o, e, _⟩ := W.list q
  exact no_one hn e
theorem Wd.notDict (W : Wd P h a gs ds rs x y grs rows here digits taken) {d : Addr} {es : List DictEntry} {n : Nat} (hd : h.get? d = some (dictOf es n)) : d ∉ a.src :: a.AL :: a.DG :: a.R :: rs := fun q => by
  obtain ⟨items, l⟩ := W.list q
  exact list_ne l hd (by first | exact List.mem_append_left _ (.head _) | exact List.mem_append_left _ (.tail _ (.head _)) | exact List.mem_append_left _ (.tail _ (.tail _ (.head _))) | exact List.mem_append_left _ (.tail _ (.tail _ (.tail _ (.head _)))) | exact .head _ | exact .tail _ (.head _) | simp) rfl
theorem mem_src {a : Ad} {rs : List Addr} {b : Addr} (h : b ∈ a.src :: a.R :: rs) : b ∈ a.src :: a.AL :: a.DG :: a.R :: rs := by
  simp only [List.mem_cons] at h ⊢
  rcases h with h | h | h
  · exact .inl h
  · exact .inr (.inr (.inr (.inl h)))
  · exact .inr (.inr (.inr (.inr h)))
-- a row of the law's own changed in place
theorem Wd.rowTurn (W : Wd P h a gs ds rs x y grs rows here digits taken) {i : Nat} {b : Addr} {r r' : Row} (hb : rs[i]? = some b) (hr : rows[i]? = some r) (k : But b h h') (new : RowAt h' b r') : Wd P h' a gs ds rs x y grs (rows.set i r') here digits taken := by
  obtain ⟨items, hl⟩ := W.rw.row (List.mem_of_getElem? hb)
  exact W.told k hl (.tail _ (List.mem_of_getElem? hb)) (W.rw.turn hb hr k new) W.nd fun c hc => W.hiR _ (.tail _ hc)
theorem nd_new {a b c d n : Addr} {rs rs' : List Addr} (nd : (a :: b :: c :: d :: rs).Nodup) (hn : n ∉ a :: b :: c :: d :: rs) (sub : ∀ z ∈ rs', z = n ∨ z ∈ rs) (nd' : rs'.Nodup) : (a :: b :: c :: d :: rs').Nodup := by
  simp only [List.nodup_cons, List.mem_cons, not_or] at nd hn ⊢
  obtain ⟨⟨h1, h2, h3, h4⟩, ⟨h5, h6, h7⟩, ⟨h8, h9⟩, h10, h11⟩ := nd
  obtain ⟨n1, n2, n3, n4, n5⟩ := hn
  have out : ∀ z, z ≠ n → z ∉ rs → z ∉ rs' := fun z z1 z2 q => (sub z q).elim z1 z2
  exact ⟨⟨h1, h2, h3, out _ (Ne.symm n1) h4⟩, ⟨h5, h6, out _ (Ne.symm n2) h7⟩, ⟨h8, out _ (Ne.symm n3) h9⟩, out _ (Ne.symm n4) h10, nd'⟩
-- a row of the law's own replaced by a new one
theorem Wd.rowSwap (W : Wd P h a gs ds rs x y grs rows here digits taken) {i : Nat} {n : Addr} {r' : Row} (hi : i < rs.length) (hn : n ∉ a.src :: a.AL :: a.DG :: a.R :: rs) (hn2 : 254 ≤ n) (k : But a.R h h') (hl : h'.PlainList a.R ((rs.map Value.ref).toArray.setIfInBounds i (.ref n))) (new : RowAt h n r') :
    Wd P h' a gs ds (rs.set i n) x y grs (rows.set i r') here digits taken := by
  have hn' : n ∉ a.R :: rs := fun q => hn (.tail _ (.tail _ (.tail _ q)))
  have RW := W.rw.swap hi hn' k hl new
  have sub : ∀ z ∈ rs.set i n, z = n ∨ z ∈ rs := fun z hz => (List.mem_or_eq_of_mem_set hz).elim .inr .inl
  have nd2 := RW.nd
  rw [List.nodup_cons] at nd2
  exact W.told k W.rw.rl (.head _) RW (nd_new W.nd hn sub nd2.2) fun c hc => (sub c hc).elim (fun q => q ▸ hn2) fun q => W.hiR _ (.tail _ q)
-- a row more
theorem Wd.rowMore (W : Wd P h a gs ds rs x y grs rows here digits taken) {n : Addr} {r' : Row} (hn : n ∉ a.src :: a.AL :: a.DG :: a.R :: rs) (hn2 : 254 ≤ n) (k : But a.R h h') (hl : h'.PlainList a.R ((rs.map Value.ref).toArray.push (.ref n))) (new : RowAt h n r') :
    Wd P h' a gs ds (rs ++ [n]) x y grs (rows ++ [r']) here digits taken := by
  have hn' : n ∉ a.R :: rs := fun q => hn (.tail _ (.tail _ (.tail _ q)))
  have RW := W.rw.more hn' k hl new
  have sub : ∀ z ∈ rs ++ [n], z = n ∨ z ∈ rs := fun z hz => (List.mem_append.mp hz).elim .inr fun q => .inl (List.mem_singleton.mp q)
  have nd2 := RW.nd
  rw [List.nodup_cons] at nd2
  exact W.told k W.rw.rl (.head _) RW (nd_new W.nd hn sub nd2.2) fun c hc => (sub c hc).elim (fun q => q ▸ hn2) fun q => W.hiR _ (.tail _ q)
-- a table has changed
theorem Wd.tabbed (W : Wd P h a gs ds rs x y grs rows here digits taken) (k : But 229 h h') (new : TabS h') : Wd P h' a gs ds rs x y grs rows here digits taken := by
  obtain ⟨ps, eT, _⟩ := W.tab
  have no : ∀ {b : Addr} {o : Obj}, h.get? b = some o → o.cls ≠ .none → b ≠ 229 := fun e hc q => by rw [q, eT] at e; cases e; exact hc rfl
  have noL : ∀ {b : Addr} {items : Array Value}, h.IsList b items → b ≠ 229 := fun l => by
    obtain ⟨o, e, c, _⟩ := l
    exact no e (by rw [c]; simp)
  have keepI : ∀ {z c dx : Addr} {es : List DictEntry} {n : Nat}, Inst h z c dx es n → Inst h' z c dx es n := fun J => k.inst (no J.o (by first | exact List.mem_append_left _ (.head _) | exact List.mem_append_left _ (.tail _ (.head _)) | exact List.mem_append_left _ (.tail _ (.tail _ (.head _))) | exact List.mem_append_left _ (.tail _ (.tail _ (.tail _ (.head _)))) | exact .head _ | exact .tail _ (.head _) | simp)) (no J.d (by first | exact List.mem_append_left _ (.head _) | exact List.mem_append_left _ (.tail _ (.head _)) | exact List.mem_append_left _ (.tail _ (.tail _ (.head _))) | exact List.mem_append_left _ (.tail _ (.tail _ (.tail _ (.head _)))) | exact .head _ | exact .tail _ (.head _) | simp)) J
  have tups : Tups h h' := fun b vs n e => k b _ (no e (by simp [tupObj])) e
  refine ⟨?_, ⟨?_, ?_, ?_, ?_, W.sc.lg, W.sc.ld, ?_, W.sc.ap, W.sc.lo⟩, ⟨?_, W.rw.len, ?_, W.rw.nd⟩, W.nd, W.hiS, W.hiC, W.hiA, W.hiR, W.hiD, new⟩
  · obtain ⟨ta, tb, l⟩ := W.src.l
    exact ⟨W.src.hi, ⟨ta, tb, k.list (noL l) l⟩, W.src.a0, W.src.b0, W.src.b1⟩
  · obtain ⟨t1, t2, t3, n, I⟩ := W.sc.s; exact ⟨t1, t2, t3, n, keepI I⟩
  · obtain ⟨t1, t2, t3, n, I⟩ := W.sc.c; exact ⟨t1, t2, t3, n, keepI I⟩
  · obtain ⟨vs, l, i⟩ := W.sc.dg; exact ⟨vs, k.list (noL l) l, i⟩
  · exact k.plain (noL W.sc.al) W.sc.alp
  · intro i g d r h1 h2 h3
    obtain ⟨t1, t2, t3, t4, t5, ti, ts, wv, fr, av, n, I, hw, ha⟩ := (W.sc.go i g d r h1 h2 h3).at_
    exact ⟨t1, t2, t3, t4, t5, ti, ts, wv, fr, av, n, keepI I, hw.off tups, ha⟩
  · exact k.plain (noL W.rw.rl) W.rw.rlp
  · intro i b r h1 h2
    obtain ⟨ts, wv, av, l, hw, ha⟩ := W.rw.ro i b r h1 h2
    exact ⟨ts, wv, av, k.list (noL l) l, hw.off tups, ha⟩
end
end Mine
end

-- Room2
section
open PySem PySem.W PySem.Calls PyProof.Rows PySem.Spec PySem.SeqAt
set_option tactic.hygienic false
namespace Mine
-- these stand, up to their slots; but what lies below N and what is no dict stands as it was
noncomputable def UpZ (N : Nat) (Z : List Addr) (h h' : Heap) : Prop := ∀ b ∈ Z, ∀ o, h.get? b = some o → (∃ sl, h'.get? b = some { o with slots := sl }) ∧ ((b < N ∨ ∀ es ep, o.data ≠ .dict es ep) → h'.get? b = some o)
section
variable {N : Nat} {Z : List Addr} {h h' h'' : Heap}
theorem UpZ.of (k : ∀ b ∈ Z, ∀ o, h.get? b = some o → h'.get? b = some o) : UpZ N Z h h' := fun b hb o e => ⟨⟨o.slots, k b hb o e⟩, fun _ => k b hb o e⟩
theorem UpZ.keeps (k : h.StaysIn h') : UpZ N Z h h' := UpZ.of fun b _ o e => k b o e
theorem UpZ.trans (x : UpZ N Z h h') (y : UpZ N Z h' h'') : UpZ N Z h h'' := fun b hb o e => by
  obtain ⟨⟨s1, e1⟩, r1⟩ := x b hb o e
  obtain ⟨⟨s2, e2⟩, r2⟩ := y b hb _ e1
  exact ⟨⟨s2, e2⟩, fun d => (y b hb o (r1 d)).2 d⟩
theorem UpZ.mono {Y : List Addr} (x : UpZ N Z h h') (s : ∀ b ∈ Y, b ∈ Z) : UpZ N Y h h' := fun b hb => x b (s b hb)
theorem UpZ.lo {L : Addr} {l : List (Str × D)} (x : UpZ N Z h h') (hL : L ∈ Z) (lo : Lo h L l) : Lo h' L l := by
  obtain ⟨m, ⟨o, es, ep, e, hd, r⟩, q⟩ := lo
  obtain ⟨⟨sl, e'⟩, _⟩ := x L hL o e
  exact ⟨m, ⟨_, es, ep, e', hd, r⟩, q⟩
theorem UpZ.isCell {c : Addr} {v : Option Value} (x : UpZ N Z h h') (hc : c ∈ Z) (H : h.IsCell c v) : h'.IsCell c v := by
  obtain ⟨o, e, hd⟩ := H
  obtain ⟨⟨sl, e'⟩, _⟩ := x c hc o e
  exact ⟨_, e', hd⟩
theorem UpZ.cellAt {c : Addr} {d : D} (x : UpZ N Z h h') (hc : c ∈ Z) (H : CellAt h c d) : CellAt h' c d := let ⟨v, hv, hd⟩ := H; ⟨v, x.isCell hc hv, hd⟩
end
-- frames that are there
noncomputable def FOk (l : List Env) (h : Heap) : Prop := ∀ env ∈ l, env.scope.kind ≠ .module ∧ X4 (fun L o es ep => C3 (env.frame = some L) (h.get? L = some o) (o.data = .dict es ep))
theorem FOk.nil {h : Heap} : FOk [] h := fun _ q => nomatch q
theorem FOk.frames {l : List Env} {h : Heap} (x : FOk l h) : FramesOk l h := by
  suffices H : ∀ (X : List Addr) (l : List Env), FOk l h → (∀ a ∈ zs l, a ∈ X) → h.FunFrames (hideAll h X) l from H _ l x fun _ q => q
  intro X l
  induction l with
  | nil => intro _ _; trivial
  | cons env rest ih =>
    intro x s
    obtain ⟨hk, L, o, es, ep, hf, ho, hd⟩ := x env (.head _)
    rw [zs_cons hf] at s
    exact ⟨hk, ⟨L, o, hf, hideAll_none _ (s _ (.head _)), ho, fun vs q => by rw [hd] at q; cases q⟩, ih (fun e he => x e (.tail _ he)) fun a ha => s a (.tail _ ha)⟩
theorem FOk.up {N : Nat} {l : List Env} {h h' : Heap} {Z : List Addr} (x : FOk l h) (u : UpZ N Z h h') (s : ∀ a ∈ zs l, a ∈ Z) : FOk l h' := fun env he => by
  obtain ⟨hk, L, o, es, ep, hf, ho, hd⟩ := x env he
  obtain ⟨⟨sl, e⟩, _⟩ := u L (s L (List.mem_filterMap.mpr ⟨env, he, hf⟩)) o ho
  exact ⟨hk, L, _, es, ep, hf, e, hd⟩
theorem FOk.cons {l : List Env} {h : Heap} {env : Env} {L : Addr} {lo : List (Str × D)} (x : FOk l h) (hk : env.scope.kind = .function) (hf : env.frame = some L) (H : Lo h L lo) : FOk (env :: l) h := fun e he => by
  revert e he; refine Mine.allc ?_ fun e he => ?_
  · obtain ⟨m, ⟨o, es, ep, e, hd, _⟩, _⟩ := H
    exact ⟨by rw [hk]; decide, L, o, es, ep, hf, e, hd⟩
  · exact x e he
-- a body at its work over the law's things; Y: its own frame and cells, Z: what its caller hides
structure Rm (w : World) (N : Nat) (Z Y : List Addr) (he h : Heap) (a : Ad) (gs ds rs : List Addr) (x y : Int) (grs rows : List Row) (here : Option Nat) (digits : List Int) (taken : Int) : Prop where
  ok : Ok (KP w.params) h
  wd : Wd w.params (hideAll h (Y ++ Z)) a gs ds rs x y grs rows here digits taken
  up : UpZ N Z he h
  is : ∀ b ∈ Y ++ Z, ∃ o, h.get? b = some o
  hi : ∀ b ∈ Y, 254 ≤ b
  nt : 229 ∉ Z
section
variable {w : World} {N : Nat} {Z Y : List Addr} {he h h' : Heap} {a : Ad} {gs ds rs gs' ds' rs' : List Addr} {x y x' y' : Int} {grs rows grs' rows' : List Row} {here here' : Option Nat} {digits : List Int} {taken taken' : Int}
theorem Rm.step (M : Rm w N Z Y he h a gs ds rs x y grs rows here digits taken) (ok : Ok (KP w.params) h') (wd : Wd w.params (hideAll h' (Y ++ Z)) a gs' ds' rs' x' y' grs' rows' here' digits taken') (u : UpZ N (Y ++ Z) h h') : Rm w N Z Y he h' a gs' ds' rs' x' y' grs' rows' here' digits taken' :=
  ⟨ok, wd, M.up.trans (u.mono fun b hb => List.mem_append_right _ hb), fun b hb => by
    obtain ⟨o, e⟩ := M.is b hb
    obtain ⟨⟨sl, e'⟩, _⟩ := u b hb o e
    exact ⟨_, e'⟩, M.hi, M.nt⟩
theorem Rm.keeps (M : Rm w N Z Y he h a gs ds rs x y grs rows here digits taken) (k : h.StaysIn h') : Rm w N Z Y he h' a gs ds rs x y grs rows here digits taken :=
  M.step (M.ok.keeps k) (M.wd.keeps (stay_hide k)) (UpZ.keeps k)
theorem up_but {N : Nat} {Z : List Addr} {h h' : Heap} {d : Addr} (k : But d h h') (n : d ∉ Z) : UpZ N Z h h' := UpZ.of fun b hb o e => k b o (fun q => n (q ▸ hb)) e
theorem up_off {N : Nat} {Z X : List Addr} {h h' : Heap} (k : Off X h h') (n : ∀ d ∈ X, d ∉ Z) : UpZ N Z h h' := UpZ.of fun b hb o e => k b o e fun q => n b q hb
theorem off_hide {Z X : List Addr} {h h' : Heap} (k : Off X h h') : Off X (hideAll h Z) (hideAll h' Z) := fun b o e hb => hideAll_get Z (k b o (of_hideAll Z e) hb) (hide_no e)
theorem Ok.off {K : Frag} {X : List Addr} {h h' : Heap} (B : Ok K h) (k : Off X h h') (hi : ∀ d ∈ X, 254 ≤ d) : Ok K h' := B.low fun b o hb e => k b o e fun q => absurd (hi b q) (Nat.not_le.mpr hb)
-- something was drawn
theorem Rm.drawn (M : Rm w N Z Y he h a gs ds rs x y grs rows here digits taken) (k : But a.src h h') (new : Src h' a.src x' y') : Rm w N Z Y he h' a gs ds rs x' y' grs rows here digits taken ∧ UpZ N (Y ++ Z) h h' := by
  obtain ⟨ta, tb, o, e, r⟩ := M.wd.src.l
  have n := hide_no e
  have u := up_but (N := N) k n
  obtain ⟨tc, td, o', e', r'⟩ := new.l
  refine ⟨M.step (M.ok.but k M.wd.src.hi) (M.wd.drawn (but_hide k) ⟨new.hi, ⟨tc, td, o', hideAll_get _ e' n, r'⟩, new.a0, new.b0, new.b1⟩) u, u⟩
theorem Rm.src (M : Rm w N Z Y he h a gs ds rs x y grs rows here digits taken) : Src h a.src x y := Src.off (X := []) M.wd.src (Off.nil hideAll_stays) fun q => nomatch q
-- a goroutine's dict has changed
theorem Rm.ruled (M : Rm w N Z Y he h a gs ds rs x y grs rows here digits taken) {d : Addr} (hd : d ∈ ds) (k : But d h h') (new : Sched w.params (hideAll h' (Y ++ Z)) a.S a.dS a.C a.dC a.DG a.AL gs ds grs' here' digits taken') :
    Rm w N Z Y he h' a gs ds rs x y grs' rows here' digits taken' ∧ UpZ N (Y ++ Z) h h' := by
  obtain ⟨i, hi, e⟩ := List.mem_iff_getElem.mp hd
  have e1 : ds[i]? = some d := by rw [List.getElem?_eq_getElem hi, e]
  have h2 : i < grs.length := by rw [← M.wd.sc.ld]; exact hi
  obtain ⟨g, d', hg, hd', G⟩ := M.wd.sc.look (List.getElem?_eq_getElem h2)
  rw [e1] at hd'; cases hd'
  obtain ⟨t1, t2, t3, t4, t5, ti, ts, wv, fr, av, n, I, hw, ha⟩ := G.at_
  have u := up_but (N := N) k (hide_no I.d)
  refine ⟨M.step (M.ok.but k (M.wd.hiD _ hd)) (M.wd.ruled (X := [d]) (Off.one (but_hide k)) (fun b hb => by revert b hb; refine Mine.all1 ?_; exact soft_dict I.d) (fun b hb q => by
    rw [List.mem_singleton.mp hb] at q
    exact M.wd.notDict I.d (mem_src q)) new M.wd.hiD) u, u⟩
theorem Rm.ntY (M : Rm w N Z Y he h a gs ds rs x y grs rows here digits taken) : 229 ∉ Y ++ Z := fun q => by
  rcases List.mem_append.mp q with q | q
  · exact absurd (M.hi _ q) (by decide)
  · exact M.nt q
-- a lambda was made
theorem Rm.tabbed (M : Rm w N Z Y he h a gs ds rs x y grs rows here digits taken) (k : But 229 h h') (new : TabS (hideAll h' (Y ++ Z))) (ok : Ok (KP w.params) h') : Rm w N Z Y he h' a gs ds rs x y grs rows here digits taken ∧ UpZ N (Y ++ Z) h h' := by
  have u : UpZ N (Y ++ Z) h h' := up_but k M.ntY
  exact ⟨M.step ok (M.wd.tabbed (but_hide k) new) u, u⟩
theorem UpZ.held {N : Nat} {l : List Env} {Z : List Addr} {h h' : Heap} (k : Held l h h') (F : FOk l h) (fN : ∀ b ∈ zs l, N ≤ b) : UpZ N Z h h' := fun b _ o e => by
  by_cases hb : b ∈ zs l
  · obtain ⟨env, he, hf⟩ := List.mem_filterMap.mp hb
    obtain ⟨_, L, o', es, ep, hf', e', hd⟩ := F env he
    rw [hf] at hf'; cases hf'
    rw [e] at e'; cases e'
    refine ⟨k.2 b o e (fun vs q => by rw [hd] at q; cases q), fun d => ?_⟩
    rcases d with d | d
    · exact absurd (fN b hb) (Nat.not_le.mpr d)
    · exact absurd hd (d es ep)
  · have := k.1 b o (hideAll_get _ e hb)
    exact ⟨⟨o.slots, this⟩, fun _ => this⟩
-- a fault came and was caught
theorem Rm.held (M : Rm w N Z Y he h a gs ds rs x y grs rows here digits taken) {l : List Env} (s : ∀ b ∈ zs l, b ∈ Y ++ Z) (k : Held l h h') (F : FOk l h) (hN : 254 ≤ N) (fN : ∀ b ∈ zs l, N ≤ b) : Rm w N Z Y he h' a gs ds rs x y grs rows here digits taken ∧ UpZ N (Y ++ Z) h h' := by
  have u : UpZ N (Y ++ Z) h h' := UpZ.held k F fN
  have st : (hideAll h (Y ++ Z)).StaysIn (hideAll h' (Y ++ Z)) := fun b o e => hideAll_get _ (k.1 b o (hideAll_get _ (of_hideAll _ e) fun q => hide_no e (s b q))) (hide_no e)
  exact ⟨M.step (M.ok.held k.1 fun b hb => Nat.le_trans hN (fN b hb)) (M.wd.keeps st) u, u⟩
-- the body's own frame has changed
theorem Rm.own (M : Rm w N Z Y he h a gs ds rs x y grs rows here digits taken) {L : Addr} {o' : Obj} (hL : L ∈ Y) (hZ : L ∉ Z) (k : But L h h') (e' : h'.get? L = some o') : Rm w N Z Y he h' a gs ds rs x y grs rows here digits taken := by
  have hLm := List.mem_append_left Z hL
  refine ⟨M.ok.but k (M.hi _ hL), M.wd.keeps fun b o e => hideAll_get _ (k b o (fun q => hide_no e (q ▸ hLm)) (of_hideAll _ e)) (hide_no e), M.up.trans (up_but k hZ), fun b hb => ?_, M.hi, M.nt⟩
  by_cases q : b = L
  · exact ⟨o', by rw [q]; exact e'⟩
  · obtain ⟨o, e⟩ := M.is b hb
    exact ⟨o, k b o q e⟩
theorem Rm.ownLo (M : Rm w N Z Y he h a gs ds rs x y grs rows here digits taken) {L : Addr} {l : List (Str × D)} (hL : L ∈ Y) (hZ : L ∉ Z) (k : But L h h') (lo : Lo h' L l) : Rm w N Z Y he h' a gs ds rs x y grs rows here digits taken := by
  obtain ⟨m, ⟨o, es, ep, e, hd, _⟩, _⟩ := lo
  exact M.own hL hZ k e
end
theorem SameBut.but {d : Addr} {h h' : Heap} (x : Heap.SameBut d h h') : But d h h' := fun b o hb e => (x.2 b hb).trans e
theorem Lo.bd {h : Heap} {L : Addr} {l : List (Str × D)} (x : Lo h L l) : Bd (h.hide L) L l h := ⟨x, fun b o e => Heap.of_hide e, Heap.hide_self h L⟩
end Mine
end

-- Deed0
section
open PySem PySem.W PySem.Calls PyProof.Rows PySem.Spec PySem.SeqAt
set_option tactic.hygienic false
namespace Mine
section
variable {PR : Program} {w : World} {A : Around} {env : Env} {h : Heap} {K : Frag}
theorem Cmp.noneEq : Cmp PR w A .Eq .none .none h true := fun x y ex ey s Q E e q => by cases ex; cases ey; exact RcAt.none_none PR w E Q (Do.now e q ⟨rfl, rfl⟩)
theorem Cmp.noneNe : Cmp PR w A .NotEq .none .none h false := fun x y ex ey s Q E e q => by cases ex; cases ey; exact RcNeAt.none_none PR w E Q (Do.now e q ⟨rfl, rfl⟩)
theorem Cmp.anEq (o : Option Int) : Cmp PR w A .Eq (anDd o) (anDd o) h true := by
  cases o with
  | none => exact Cmp.noneEq
  | some k => have := Cmp.eq (PR := PR) (w := w) (A := A) (h := h) (a := k) (b := k); simpa [anDd] using this
theorem Cmp.anNe (o : Option Int) : Cmp PR w A .NotEq (anDd o) (anDd o) h false := by
  cases o with
  | none => exact Cmp.noneNe
  | some k => have := Cmp.ne (PR := PR) (w := w) (A := A) (h := h) (a := k) (b := k); simpa [anDd] using this
-- a value into a name of the frame
theorem DsLet {x : Str} {pos' pos : Pos} {value : Expr} {rest : List Stmt} {P : Value → Heap → Prop} {R : Flow → Heap → Prop} (d : Do PR w A (eval value env) h P) (k : ∀ v h1, P v h1 → X2 (fun l dv => C3 (Lo h1 env.locals l) (D.Is dv v) (∀ h2, Lo h2 env.locals ((x, dv) :: l) → But env.locals h1 h2 → Do PR w A (execs rest env) h2 R)))
    (hs : swapsWith value (some (.Name x pos')) pos.line env = pure false := by rfl) (hk : env.scope.kind = .function := by rfl) (hl : env.kindOf x = some .local := by rfl) : Do PR w A (execs (.Assign [.Name x pos'] value pos :: rest) env) h R :=
  Ds.assign (hs := hs) (hk := hk) (hl := hl) d fun v h1 p => by
    obtain ⟨l, dv, lo, hd, k⟩ := k v h1 p
    exact ⟨_, l, dv, lo.bd, hd, fun h2 b s => k h2 b.lo (SameBut.but s)⟩
-- a value into a cell of the frame
theorem DsCell {x : Str} {pos' pos : Pos} {value : Expr} {rest : List Stmt} {P : Value → Heap → Prop} {R : Flow → Heap → Prop} (d : Do PR w A (eval value env) h P) (k : ∀ v h1, P v h1 → X2 (fun c v0 => C3 (env.cells.lookup x = some c) (h1.IsCell c v0) (∀ h2, h2.IsCell c (some v) → But c h1 h2 → Do PR w A (execs rest env) h2 R)))
    (hs : swapsWith value (some (.Name x pos')) pos.line env = pure false := by rfl) (hk : env.scope.kind = .function := by rfl) (hl : env.kindOf x = some .cell := by rfl) : Do PR w A (execs (.Assign [.Name x pos'] value pos :: rest) env) h R := fun s Q E e q =>
  wpAny_execs_cons (wpAny_Assign_Name (d s _ E e fun v h1 tk p => by
    obtain ⟨c, v0, hc, hv, k⟩ := k v h1 p
    exact wpAny_storeName_cell hk hl hc hv fun h2 hc2 hs2 => k h2 hc2 (SameBut.but hs2) _ Q E rfl fun v h' tk r => q v h' tk r) hs)
end
section
variable {w : World} {A : Around} {env : Env} {h : Heap}
-- _law_take(x, n)
theorem DoTake {x n : Expr} {np pos : Pos} {src : Addr} {a b top : Int} (B : Ok (KP w.params) h) (am : A.depth + 1 < recursionLimit) (S : Src h src a b) (h0 : 0 < top) (h1 : top < 2 ^ 63) (dx : Pe PR w A x env h (.ref src)) (dn : Pe PR w A n env h (.int top))
    (hg : env.globals = mainGlobals := by rfl) (hk : env.scope.kind = .function := by rfl) (hx : env.kindOf "_law_take" = some .globalImplicit := by rfl)
    (he : starEach [x, n] env = (false, eval x env) :: starEach [n] env := by rfl) (he2 : starEach [n] env = (false, eval n env) :: starEach [] env := by rfl) (hp : (backTo pos (starEach [n] env)).any (·.1) = false := by rfl) :
    Do PR w A (eval (.Call (.Name "_law_take" np) [x, n] [] pos) env) h fun v h' => X4 (fun r t a₁ b₁ => C5 (v = .int r t) (0 ≤ r) (r < top) (Src h' src a₁ b₁) (But src h h')) :=
  Do.callName (Pe.glob (d := .ref 203) B gl_law_take rfl hg hk hx) fun u h1' p => by
    revert u h1' p; refine i2 ?_
    refine DoCallWith (K := KP w.params) (Callable.ofK ke_f.2.1) (Args.plain1 (he := he) dx (Args.plain1 (he := he2) dn Args.plain0)) (fun vs h2 p => ?_) (he := he) (hp := hp)
    revert h2 p; refine i1 fun p => ?_
    obtain ⟨v, u, rfl, rfl, t, rfl⟩ := p.two
    exact ⟨B, take_spec B am S h0 h1⟩
end
end Mine
end

-- Room3
section
open PySem PySem.W PySem.Calls PyProof.Rows PySem.Spec PySem.SeqAt
set_option tactic.hygienic false
namespace Mine
theorem AreD.three {d e f : D} {vs : List Value} (x : AreD [d, e, f] vs) : X3 (fun u v t => C4 (vs = [u, v, t]) (d.Is u) (e.Is v) (f.Is t)) := by
  cases x with
  | cons hd q => obtain ⟨v, t, rfl, hv, ht⟩ := q.two; exact ⟨_, _, _, rfl, hd, hv, ht⟩
section
variable {w : World} {N : Nat} {Z Y : List Addr} {he h h' : Heap} {a : Ad} {gs ds rs gs' ds' rs' : List Addr} {x y x' y' : Int} {grs rows grs' rows' : List Row} {here here' : Option Nat} {digits : List Int} {taken taken' : Int}
theorem isList_hide {Z : List Addr} {h : Heap} {l : Addr} {items : Array Value} (x : h.IsList l items) (n : l ∉ Z) : (hideAll h Z).IsList l items := let ⟨o, e, r⟩ := x; ⟨o, hideAll_get _ e n, r⟩
theorem plain_hide {Z : List Addr} {h : Heap} {l : Addr} {items : Array Value} (x : h.PlainList l items) (n : l ∉ Z) : (hideAll h Z).PlainList l items := let ⟨o, e⟩ := x; ⟨o, hideAll_get _ e n⟩
theorem plain_of_hide {Z : List Addr} {h : Heap} {l : Addr} {items : Array Value} (x : (hideAll h Z).PlainList l items) : h.PlainList l items := x.at fun o e => of_hideAll _ e
theorem Rm.out (M : Rm w N Z Y he h a gs ds rs x y grs rows here digits taken) {b : Addr} (hb : b ∈ a.src :: a.AL :: a.DG :: a.R :: rs) : b ∉ Y ++ Z := by
  obtain ⟨items, o, e, _⟩ := M.wd.list hb
  exact hide_no e
theorem Rm.fresh (M : Rm w N Z Y he h a gs ds rs x y grs rows here digits taken) {n : Addr} (hn : h.get? n = none) : n ∉ Y ++ Z := fun q => by
  obtain ⟨o, e⟩ := M.is n q
  exact no_one hn e
theorem Rm.dSout (M : Rm w N Z Y he h a gs ds rs x y grs rows here digits taken) : a.dS ∉ Y ++ Z := by obtain ⟨_, _, _, _, I⟩ := M.wd.sc.s; exact hide_no I.d
theorem Rm.dCout (M : Rm w N Z Y he h a gs ds rs x y grs rows here digits taken) : a.dC ∉ Y ++ Z := by obtain ⟨_, _, _, _, I⟩ := M.wd.sc.c; exact hide_no I.d
-- a goroutine more
theorem Rm.spawned (M : Rm w N Z Y he h a gs ds rs x y grs rows here digits taken) {g d : Addr} (k : Off [a.AL, a.dS] h h') (new : Sched w.params (hideAll h' (Y ++ Z)) a.S a.dS a.C a.dC a.DG a.AL (gs ++ [g]) (ds ++ [d]) grs' here' digits taken') (hd : 254 ≤ d) :
    Rm w N Z Y he h' a (gs ++ [g]) (ds ++ [d]) rs x y grs' rows here' digits taken' ∧ UpZ N (Y ++ Z) h h' := by
  have W := M.wd
  obtain ⟨_, _, _, _, I⟩ := W.sc.s
  have nd := W.nd
  simp only [List.nodup_cons, List.mem_cons, not_or] at nd
  have u := up_off (N := N) k fun z hz => by
    revert z hz; refine Mine.allc ?_ fun z hz => ?_
    · exact M.out (.tail _ (.head _))
    · revert z hz; refine Mine.all1 ?_; exact M.dSout
  refine ⟨M.step (M.ok.off k fun z hz => ?_) (W.ruled (off_hide k) (fun z hz => ?_) (fun z hz q => ?_) new fun z hz => ?_) u, u⟩
  · revert z hz; refine Mine.allc ?_ fun z hz => ?_
    · exact W.hiA
    · revert z hz; refine Mine.all1 ?_; exact W.hiS
  · revert z hz; refine Mine.allc ?_ fun z hz => ?_
    · exact soft_list W.sc.al
    · revert z hz; refine Mine.all1 ?_; exact soft_dict I.d
  · rcases List.mem_cons.mp hz with rfl | hz
    · rcases List.mem_cons.mp q with q | q
      · exact nd.1.1 q.symm
      · rcases List.mem_cons.mp q with q | q
        · exact nd.2.1.2.1 q
        · exact nd.2.1.2.2 q
    · rw [List.mem_singleton.mp hz] at q
      exact W.notDict I.d (mem_src q)
  · rcases List.mem_append.mp hz with hz | hz
    · exact W.hiD _ hz
    · rw [List.mem_singleton.mp hz]; exact hd
-- one was chosen
theorem Rm.chose (M : Rm w N Z Y he h a gs ds rs x y grs rows here digits taken) (k : Off [a.dC, a.dS] h h') (new : Sched w.params (hideAll h' (Y ++ Z)) a.S a.dS a.C a.dC a.DG a.AL gs ds grs' here' digits taken') :
    Rm w N Z Y he h' a gs ds rs x y grs' rows here' digits taken' ∧ UpZ N (Y ++ Z) h h' := by
  have W := M.wd
  obtain ⟨_, _, _, _, I⟩ := W.sc.s
  obtain ⟨_, _, _, _, J⟩ := W.sc.c
  have u := up_off (N := N) k fun z hz => by
    revert z hz; refine Mine.allc ?_ fun z hz => ?_
    · exact M.dCout
    · revert z hz; refine Mine.all1 ?_; exact M.dSout
  refine ⟨M.step (M.ok.off k fun z hz => ?_) (W.ruled (off_hide k) (fun z hz => ?_) (fun z hz q => ?_) new W.hiD) u, u⟩
  · revert z hz; refine Mine.allc ?_ fun z hz => ?_
    · exact W.hiC
    · revert z hz; refine Mine.all1 ?_; exact W.hiS
  · revert z hz; refine Mine.allc ?_ fun z hz => ?_
    · exact soft_dict J.d
    · revert z hz; refine Mine.all1 ?_; exact soft_dict I.d
  · rcases List.mem_cons.mp hz with rfl | hz
    · exact W.notDict J.d (mem_src q)
    · rw [List.mem_singleton.mp hz] at q
      exact W.notDict I.d (mem_src q)
-- a row of the law's own changed in place
theorem Rm.turned (M : Rm w N Z Y he h a gs ds rs x y grs rows here digits taken) {i : Nat} {b : Addr} {r r' : Row} (hb : rs[i]? = some b) (hr : rows[i]? = some r) (k : But b h h') (new : RowAt (hideAll h' (Y ++ Z)) b r') :
    Rm w N Z Y he h' a gs ds rs x y grs (rows.set i r') here digits taken ∧ UpZ N (Y ++ Z) h h' := by
  have hm := List.mem_of_getElem? hb
  have u := up_but (N := N) k (M.out (.tail _ (.tail _ (.tail _ (.tail _ hm)))))
  exact ⟨M.step (M.ok.but k (M.wd.hiR _ (.tail _ hm))) (M.wd.rowTurn hb hr (but_hide k) new) u, u⟩
-- a row of the law's own replaced
theorem Rm.swapped (M : Rm w N Z Y he h a gs ds rs x y grs rows here digits taken) {i : Nat} {n : Addr} {r' : Row} (hi : i < rs.length) (hn : n ∉ a.src :: a.AL :: a.DG :: a.R :: rs) (hn2 : 254 ≤ n) (k : But a.R h h') (hl : h'.PlainList a.R ((rs.map Value.ref).toArray.setIfInBounds i (.ref n))) (new : RowAt (hideAll h (Y ++ Z)) n r') :
    Rm w N Z Y he h' a gs ds (rs.set i n) x y grs (rows.set i r') here digits taken ∧ UpZ N (Y ++ Z) h h' := by
  have o := M.out (b := a.R) (.tail _ (.tail _ (.tail _ (.head _))))
  have u := up_but (N := N) k o
  exact ⟨M.step (M.ok.but k (M.wd.hiR _ (.head _))) (M.wd.rowSwap hi hn hn2 (but_hide k) (plain_hide hl o) new) u, u⟩
-- a row more
theorem Rm.more (M : Rm w N Z Y he h a gs ds rs x y grs rows here digits taken) {n : Addr} {r' : Row} (hn : n ∉ a.src :: a.AL :: a.DG :: a.R :: rs) (hn2 : 254 ≤ n) (k : But a.R h h') (hl : h'.PlainList a.R ((rs.map Value.ref).toArray.push (.ref n))) (new : RowAt (hideAll h (Y ++ Z)) n r') :
    Rm w N Z Y he h' a gs ds (rs ++ [n]) x y grs (rows ++ [r']) here digits taken ∧ UpZ N (Y ++ Z) h h' := by
  have o := M.out (b := a.R) (.tail _ (.tail _ (.tail _ (.head _))))
  have u := up_but (N := N) k o
  exact ⟨M.step (M.ok.but k (M.wd.hiR _ (.head _))) (M.wd.rowMore hn hn2 (but_hide k) (plain_hide hl o) new) u, u⟩
-- a new thing is nothing of the law's
theorem Rm.newW (M : Rm w N Z Y he h a gs ds rs x y grs rows here digits taken) {n : Addr} (hn : h.get? n = none) : n ∉ a.src :: a.AL :: a.DG :: a.R :: rs := M.wd.new (none_hide hn)
-- where row i is, and what it holds
theorem Rm.row (M : Rm w N Z Y he h a gs ds rs x y grs rows here digits taken) {i : Nat} {r : Row} (hr : rows[i]? = some r) : X4 (fun b ts wv av => C5 (rs[i]? = some b) (b ∈ rs) (h.IsList b #[.str r.st ts, wv, av]) (WtAt (hideAll h (Y ++ Z)) wv r.wt) (AnIs av r.an)) := by
  have hi : i < rs.length := by rw [M.wd.rw.len]; exact (List.getElem?_eq_some_iff.mp hr).1
  obtain ⟨ts, wv, av, l, hw, ha⟩ := M.wd.rw.ro i rs[i] r (List.getElem?_eq_getElem hi) hr
  exact ⟨rs[i], ts, wv, av, List.getElem?_eq_getElem hi, List.getElem_mem hi, IsList_keeps l hideAll_stays, hw, ha⟩
end
end Mine
end

-- Fell
section
open PySem PySem.W PySem.Calls PyProof.Rows PySem.Spec PySem.SeqAt
set_option tactic.hygienic false
namespace Mine
theorem lookup_out : ∀ {l : List (Nat × Obj)}, List.lookup 229 (l.filter fun p => p.1 != 229) = none
  | [] => rfl
  | (b, o) :: l => by
    rw [List.filter_cons]
    split
    · rename_i hb
      rw [List.lookup_cons, lookup_out]
      have : ((229 : Nat) == b) = false := by
        simp at hb ⊢
        omega
      rw [this]
    · exact lookup_out
theorem Ok.tabbed {P : Params} {h h' : Heap} (x : Ok (KP P) h) (k : But 229 h h') : Ok (KP P) h' :=
  ⟨fun a o e => k a o (fun q => by
      subst q
      exact no_one (show (KP P).lookup 229 = none from lookup_out) e) (x.k a o e),
    let ⟨p, l, mg, mb, T⟩ := x.top; ⟨p, l, mg, mb, Ns_at T.g fun o => k _ o (by decide), Ns_at T.b fun o => k _ o (by decide), let ⟨mc, n, q⟩ := T.nolimit; ⟨mc, Ns_at n fun o => k _ o (by decide), q⟩, T.builtins, T.free⟩,
    x.lt, let ⟨o, e⟩ := x.big; ⟨o, k _ o (by decide) e⟩⟩
section
variable {w : World} {A : Around} {env : Env} {N : Nat} {Z Y : List Addr} {he h : Heap} {a : Ad} {gs ds rs : List Addr} {x y : Int} {grs rows : List Row} {here : Option Nat} {digits : List Int} {taken : Int} {l : List Env}
-- _law_fell(lambda: body), where the body falls
theorem DoFellLam {np pos lp : Pos} {params : Arguments} {body : Expr} {scope : Scope} {clos : List (Str × Addr)} (M : Rm w N Z Y he h a gs ds rs x y grs rows here digits taken) (lw : Lw A 6) (hfr : A.frames = some l) (F : FOk l h) (zz : ∀ b ∈ zs l, b ∈ Y ++ Z) (hN : 254 ≤ N) (fN : ∀ b ∈ zs l, N ≤ b) (hcode : env.code = .ref 233)
    (go : ∀ A' l' h1 L' f c' h2, Rm w N Z Y he h1 a gs ds rs x y grs rows here digits taken → UpZ N (Y ++ Z) h h1 → A'.frames = some l' → FramesOk l' h1 → Lw A' 5 → Bd h1 L' [] h2 →
      Falls PR w (A'.deeper (envX lamQ scope L' f (.ref c') clos)) (eval body (envX lamQ scope L' f (.ref c') clos)) h2 fun e h' => Rose (envX lamQ scope L' f (.ref c') clos) l' h1 h' e)
    (hcl : closureFor scope env = pure clos := by rfl) (hdef : defaultsOf params env = ([], []) := by rfl) (hq : env.qual ++ "<lambda>" = lamQ := by rfl)
    (hbind : ∀ pm c' ctv, bindArgs (kla_fn "<lambda>" lamQ params body scope clos pm c' ctv) ⟨[], []⟩ = pure [] := by intro _ _ _; rfl) (hco : scope.isCoroutine = false := by rfl) (hgen : scope.isGenerator = false := by rfl) (hks : scope.kind = .function := by rfl) (hcell : ∀ x ∈ scope.names, x.2 ≠ .cell := by decide)
    (hg : env.globals = mainGlobals := by rfl) (hk : env.scope.kind = .function := by rfl) (hx : env.kindOf "_law_fell" = some .globalImplicit := by rfl)
    (hs : starEach [.Lambda params body scope lp] env = (false, eval (.Lambda params body scope lp) env) :: starEach [] env := by rfl) :
    Do PR w A (eval (.Call (.Name "_law_fell" np) [.Lambda params body scope lp] [] pos) env) h fun v h' => v = .bool true ∧ Rm w N Z Y he h' a gs ds rs x y grs rows here digits taken ∧ UpZ N (Y ++ Z) h h' :=
  Do.callName (Pe.glob (d := .ref 222) M.ok gl_law_fell rfl hg hk hx) fun u h1 p => by
    obtain ⟨rfl, rfl⟩ := p
    refine DoCallWith (K := KP w.params) (Callable.ofK ke_f.2.2.2.1) (P := fun vs h2 => X4 (fun f pm c' ctv => C5 (vs = [.ref f]) (h2.get? f = some (kla_obj "<lambda>" lamQ params body scope clos pm c' ctv)) (h2.CodeRec (.ref c') lamQ) (Rm w N Z Y he h2 a gs ds rs x y grs rows here digits taken) (UpZ N (Y ++ Z) h1 h2)))
      (Args.cons (he := hs) (DoLam M.ok M.wd.tab M.ntY M.is hcode hdef hq hcl hg) fun v h2 p => Args.nil ?_) (fun vs h2 p => ?_) (he := hs)
    · obtain ⟨f, pm, c', ctv, rfl, nf, ef, hc, T, k⟩ := p
      obtain ⟨M2, u2⟩ := M.tabbed k T (M.ok.tabbed k)
      exact ⟨f, pm, c', ctv, rfl, ef, hc, M2, u2⟩
    · obtain ⟨f, pm, c', ctv, rfl, ef, hc, M2, u2⟩ := p
      refine ⟨M2.ok, (fell_spec M2.ok lw hfr (F.up u2 zz).frames (fun b hb => Nat.le_trans hN (fN b hb)) ef rfl fun A' l' h3 k3 hfr' F' lw' => ?_).mono ?_⟩
      · have M3 := M2.keeps k3
        exact FalLam M3.ok (k3 _ _ ef) (hc.keeps k3) lw'.ar.room (hbind _ _ _) hco hgen hks hcell hfr' F' fun L' h4 b4 => go A' l' h3 L' f c' h4 M3 (u2.trans (UpZ.keeps k3)) hfr' F' lw' b4
      · rintro v h3 ⟨rfl, hh⟩
        obtain ⟨M3, u3⟩ := M2.held zz hh (F.up u2 zz) hN fN
        exact ⟨rfl, M3, u2.trans u3⟩
end
end Mine
end

-- Deed
section
open PySem PySem.W PySem.Calls PyProof.Rows PySem.Spec PySem.SeqAt
set_option tactic.hygienic false
namespace Mine
-- rows as the law keeps them
structure Fine (rows : List Row) : Prop where
  len : rows.length ≤ 5
  st : ∀ r ∈ rows, PyData.strOk r.st = true
theorem Fine.set {rows : List Row} (x : Fine rows) {i : Nat} {r : Row} (hr : PyData.strOk r.st = true) : Fine (rows.set i r) := ⟨by rw [List.length_set]; exact x.len, fun z hz => (List.mem_or_eq_of_mem_set hz).elim (x.st z) fun e => e ▸ hr⟩
-- what a deed leaves
noncomputable def Done (w : World) (N : Nat) (Z : List Addr) (a : Ad) (digits : List Int) (taken : Int) (h : Heap) (i : Nat) (h' : Heap) : Prop := Ok (KP w.params) h' ∧ UpZ N Z h h' ∧ X6 (fun gs ds rs x y rows => Wd w.params (hideAll h' Z) a gs ds rs x y rows rows (some i) digits taken ∧ Fine rows)
theorem Rm.done {w : World} {N : Nat} {Z Y : List Addr} {he h : Heap} {a : Ad} {gs ds rs : List Addr} {x y : Int} {rows : List Row} {i : Nat} {digits : List Int} {taken : Int} (M : Rm w N Z Y he h a gs ds rs x y rows rows (some i) digits taken) (f : Fine rows) : Done w N Z a digits taken he i h :=
  ⟨M.ok, M.up, gs, ds, rs, x, y, rows, M.wd.keeps fun b o e => hideAll_get _ (of_hideAll _ e) fun q => hide_no e (List.mem_append_right _ q), f⟩
-- the frame and the cells of _law_deed
structure Df (L S : Addr) (k : Int) (l : List (Str × D)) (h : Heap) : Prop where
  lo : Lo h L l
  sc : CellAt h (L + 1) (.ref S)
  nu : CellAt h (L + 1 + 1) (.int k)
  go : ∃ v, h.IsCell (L + 1 + 1 + 1) v
noncomputable abbrev yd (L : Addr) : List Addr := [L, L + 1, L + 1 + 1, L + 1 + 1 + 1]
section
variable {L S : Addr} {k : Int} {l : List (Str × D)} {h h' : Heap} {Z : List Addr}
theorem Df.up {N : Nat} (f : Df L S k l h) (u : UpZ N (yd L ++ Z) h h') : Df L S k l h' :=
  ⟨u.lo (by first | exact List.mem_append_left _ (.head _) | exact List.mem_append_left _ (.tail _ (.head _)) | exact List.mem_append_left _ (.tail _ (.tail _ (.head _))) | exact List.mem_append_left _ (.tail _ (.tail _ (.tail _ (.head _)))) | exact .head _ | exact .tail _ (.head _) | simp) f.lo, u.cellAt (by first | exact List.mem_append_left _ (.head _) | exact List.mem_append_left _ (.tail _ (.head _)) | exact List.mem_append_left _ (.tail _ (.tail _ (.head _))) | exact List.mem_append_left _ (.tail _ (.tail _ (.tail _ (.head _)))) | exact .head _ | exact .tail _ (.head _) | simp) f.sc, u.cellAt (by first | exact List.mem_append_left _ (.head _) | exact List.mem_append_left _ (.tail _ (.head _)) | exact List.mem_append_left _ (.tail _ (.tail _ (.head _))) | exact List.mem_append_left _ (.tail _ (.tail _ (.tail _ (.head _)))) | exact .head _ | exact .tail _ (.head _) | simp) f.nu, let ⟨v, c⟩ := f.go; ⟨v, u.isCell (by first | exact List.mem_append_left _ (.head _) | exact List.mem_append_left _ (.tail _ (.head _)) | exact List.mem_append_left _ (.tail _ (.tail _ (.head _))) | exact List.mem_append_left _ (.tail _ (.tail _ (.tail _ (.head _)))) | exact .head _ | exact .tail _ (.head _) | simp) c⟩⟩
theorem Df.own (f : Df L S k l h) {l' : List (Str × D)} (b : But L h h') (lo : Lo h' L l') : Df L S k l' h' :=
  ⟨lo, f.sc.at fun o e => b _ o (by first | exact List.mem_append_left _ (.head _) | exact List.mem_append_left _ (.tail _ (.head _)) | exact List.mem_append_left _ (.tail _ (.tail _ (.head _))) | exact List.mem_append_left _ (.tail _ (.tail _ (.tail _ (.head _)))) | exact .head _ | exact .tail _ (.head _) | simp) e, f.nu.at fun o e => b _ o (Nat.ne_of_gt (Nat.lt_succ_of_lt (Nat.lt_succ_self L))) e, let ⟨v, o, e, r⟩ := f.go; ⟨v, o, b _ o (Nat.ne_of_gt (Nat.lt_succ_of_lt (Nat.lt_succ_of_lt (Nat.lt_succ_self L)))) e, r⟩⟩
theorem Df.cell (f : Df L S k l h) {v : Option Value} (b : But (L + 1 + 1 + 1) h h') (c : h'.IsCell (L + 1 + 1 + 1) v) : Df L S k l h' :=
  ⟨f.lo.at fun o e => b _ o (Ne.symm (Nat.ne_of_gt (Nat.lt_succ_of_lt (Nat.lt_succ_of_lt (Nat.lt_succ_self L))))) e, f.sc.at fun o e => b _ o (Ne.symm (Nat.ne_of_gt (Nat.lt_succ_of_lt (Nat.lt_succ_self _)))) e, f.nu.at fun o e => b _ o (Ne.symm (Nat.succ_ne_self _)) e, v, c⟩
end
section
variable {w : World} {A : Around} {h : Heap} {N : Nat} {Z : List Addr} {l : List Env} {a : Ad} {gs ds rs : List Addr} {x y : Int} {rows : List Row} {i : Nat} {digits : List Int} {taken k : Int} {ti tk : Tok}
set_option maxHeartbeats 4000000 in
theorem deed_spec (B : Ok (KP w.params) h) (lw : Lw A 9) (hfr : A.frames = some l) (F : FOk l h) (zz : ∀ b ∈ zs l, b ∈ Z) (zin : ∀ b ∈ Z, ∃ o, h.get? b = some o) (nt : 229 ∉ Z) (hN : 254 ≤ N) (fN : ∀ b ∈ zs l, N ≤ b) (hNs : N ≤ h.objs.size)
    (W : Wd w.params (hideAll h Z) a gs ds rs x y rows rows (some i) digits taken) (fine : Fine rows) :
    Do PR w A (call (.ref 234) [.ref a.src, .ref a.S, .ref a.R, .int i ti, .int k tk] []) h fun v h' => (∃ t, v = .int i t) ∧ Done w N Z a digits taken h i h' := by
  have B0 := B.size
  refine' DoDefX (args := ⟨[.ref a.src, .ref a.S, .ref a.R, .int i ti, .int k tk], []⟩) (binds := [("source", .ref a.src), ("scheduler", .ref a.S), ("rows", .ref a.R), ("here", .int i ti), ("number", .int k tk)]) (l := [("here", .int i), ("rows", .ref a.R), ("source", .ref a.src)]) B ?ho ?hcd lw.ar.room ?hb ?hkind ?hz ?c2 ?c3 ?c4 ?go
  case ho => (first | (with_reducible apply Mine.kp_look; (focus k_is); decide) | (with_reducible apply Mine.kp_ns; (focus k_is); decide) | kernel_rfl)
  case hcd => (first | (with_reducible apply Mine.kp_look; (focus k_is); decide) | (with_reducible apply Mine.kp_ns; (focus k_is); decide) | kernel_rfl)
  case hb => exact fun _ _ => BindsTo.of_eq rfl
  case hkind => exact fun n => kinds_of ⟨.inl rfl, .inr ⟨rfl, rfl⟩, .inl rfl, .inl rfl, .inr ⟨rfl, rfl⟩, trivial⟩
  case hz => exact fun L => Holds.put (Holds.put (Holds.put Holds.nil rfl) rfl) ⟨_, rfl⟩
  case c2 => rfl
  case c3 => rfl
  case c4 => rfl
  case go =>
    intro L h1 b X hL
    refine Do.post fun RR hRR => ?_
    have nw : ∀ c, L ≤ c → h.get? c = none := fun c hc => fresh_size (hL ▸ hc)
    have c1 : h1.IsCell (L + 1) (some (.ref a.S)) := X.cell "scheduler" (L + 1) rfl
    have c2 : h1.IsCell (L + 1 + 1) (some (.int k tk)) := X.cell "number" (L + 1 + 1) rfl
    have c3 : h1.IsCell (L + 1 + 1 + 1) none := X.cell "goal" (L + 1 + 1 + 1) rfl
    have f1 : Df L a.S k [("here", .int i), ("rows", .ref a.R), ("source", .ref a.src)] h1 := ⟨b.lo, ⟨_, c1, rfl⟩, ⟨_, c2, _, rfl⟩, _, c3⟩
    have yge : ∀ c ∈ yd L, L ≤ c := fun c hc => by simp only [yd, List.mem_cons, List.not_mem_nil, or_false] at hc; rcases hc with rfl | rfl | rfl | rfl <;> (first | exact Nat.le_refl _ | exact Nat.le_add_right L 1 | exact Nat.le_add_right L 2 | exact Nat.le_add_right L 3)
    have LZ : ∀ c ∈ yd L, c ∉ Z := fun c hc q => by
      obtain ⟨o, e⟩ := zin c q
      exact no_one (nw c (yge c hc)) e
    have cellF : ∀ {c : Addr} {v : Option Value}, h1.IsCell c v → ∃ o, h1.get? c = some o := fun {c v} H => let ⟨o, e, d⟩ := H; ⟨o, e⟩
    have M1 : Rm w N Z (yd L) h h1 a gs ds rs x y rows rows (some i) digits taken := by
      refine ⟨B.keeps b.st, W.keeps fun c o e => hideAll_get _ (b.st _ _ (of_hideAll _ e)) fun q => ?_, UpZ.keeps b.st, fun c hc => ?_, fun c hc => ?_, nt⟩
      · rcases List.mem_append.mp q with q | q
        · have := of_hideAll _ e; exact no_one (nw c (yge c q)) this
        · exact hide_no e q
      · rcases List.mem_append.mp hc with q | q
        · simp only [yd, List.mem_cons, List.not_mem_nil, or_false] at q
          rcases q with rfl | rfl | rfl | rfl
          · obtain ⟨m, ⟨o, es, ep, e, hd, _⟩, _⟩ := b.lo
            exact ⟨o, e⟩
          · exact cellF c1
          · exact cellF c2
          · exact cellF c3
        · obtain ⟨o, e⟩ := zin c q
          exact ⟨o, b.st _ _ e⟩
      · have := yge c hc
        rw [hL] at this
        exact Nat.le_trans B0 this
    have F1 : FOk l h1 := F.up (N := N) (UpZ.keeps b.st) zz
    have lw1 : ∀ env, Lw (A.deeper env) 8 := fun env => lw.deeper
    -- way
    refine DsLet (P := fun v h2 => X4 (fun r t x' y' => C5 (v = .int r t) (0 ≤ r) (r < 5) (Rm w N Z (yd L) h h2 a gs ds rs x' y' rows rows (some i) digits taken) (UpZ N (yd L ++ Z) h1 h2))) (Do.mono (DoTake M1.ok ((lw1 _).ar.less (m := 1)).dp M1.src (by decide) (by decide) (Pe.loc f1.lo rfl) Pe.int) ?_) fun v h2 p => ?_
    · rintro v h2 ⟨r, t, x', y', rfl, r0, r5, S2, k2⟩
      obtain ⟨M2, u2⟩ := M1.drawn k2 S2
      exact ⟨r, t, x', y', rfl, r0, r5, M2, u2⟩
    obtain ⟨r, t, x2, y2, rfl, r0, r5, M2, u2⟩ := p
    have f2 := f1.up u2
    refine ⟨_, .int r, f2.lo, ⟨_, rfl⟩, fun h3 lo3 b3 => ?_⟩
    have f3 := f2.own b3 lo3
    have M3 := M2.ownLo (List.mem_cons_self ..) (LZ L (by first | exact List.mem_append_left _ (.head _) | exact List.mem_append_left _ (.tail _ (.head _)) | exact List.mem_append_left _ (.tail _ (.tail _ (.head _))) | exact List.mem_append_left _ (.tail _ (.tail _ (.tail _ (.head _)))) | exact .head _ | exact .tail _ (.head _) | simp)) b3 lo3
    have F3 : FOk l h3 := F.up M3.up zz
    clear f1 M1 f2 M2 u2 F1 c1 c2 c3 X b cellF W lo3 b3
    have R3 : h3.PlainList a.R (rs.map Value.ref).toArray := M3.wd.rw.rlp.at fun o e => of_hideAll _ e
    have rlen : rs.length = rows.length := M3.wd.rw.len
    have glen : gs.length = rows.length := M3.wd.sc.lg
    have l5 := fine.len
    have zR : (((rs.map Value.ref).toArray.size : Nat) : Int) = rows.length := by simp [rlen]
    refine Ds.ifRet (T := fun c h' => h' = h3 ∧ c = (r == 0 && decide ((rows.length : Int) < 5))) (Dt.and2 (P := fun c h' => h' = h3 ∧ c = (r == 0)) (Pt.cmp Cmp.eq (Pe.loc f3.lo rfl) Pe.int) (fun h4 p => ?_) fun h4 p => ⟨p.1, by rw [← p.2]; rfl⟩) ?_ ?_
    · revert h4 p; refine Mine.i1 fun hr => ?_
      refine Do.mono (Pt.cmp Cmp.lt (Pe.len M3.ok gl_len R3.isList (by first | with_reducible exact zlenE (by assumption) (by assumption) | (rw [zR]; omega)) (Pe.loc f3.lo rfl)) Pe.int) ?_
      refine Mine.i2 ?_
      exact ⟨rfl, by rw [← hr, zR]; rfl⟩
    · refine i1 fun hc => ?_
      have hc' : r = 0 ∧ (rows.length : Int) < 5 := by first | exact of_decide_eq_true hc.symm | exact of_decide_eq_false hc.symm | simpa using hc.symm
      have hlt := hc'.2
      refine DsAppend (V := fun v h5 => X1 (fun n => C4 (v = .ref n) (h3.get? n = none) (254 ≤ n) (∃ ts, h5.IsList n #[.str "ready" ts, .none, .none]))) M3.ok R3 (by simp [sizeLine]; omega) (Pe.loc f3.lo rfl) (DoList (Args.plain1 Pe.str (Args.plain1 Pe.none (Args.plain1 Pe.none Args.plain0))) fun vs h5 p => ?_) ?_
      · revert h5 p; refine i1 fun q => ?_
        obtain ⟨u, v, t, rfl, ⟨ts, rfl⟩, rfl, rfl⟩ := q.three
        exact ⟨by show 3 ≤ sizeLine; decide, fun h6 n k6 n6 z6 e6 => ⟨k6, n, rfl, n6, Nat.le_trans M3.ok.size z6, ts, e6.isList⟩⟩
      · rintro v h5 h6 ⟨n, rfl, n5, n254, ts, l5'⟩ k5 l6 s6
        have M5 := M3.keeps k5
        have nY := M3.fresh n5
        have nW := M3.newW n5
        obtain ⟨M6, u6⟩ := M5.more nW n254 (SameBut.but s6) l6 (r' := newRow) ⟨ts, .none, .none, isList_hide l5' nY, rfl, rfl⟩
        have f6 := (f3.up (N := N) (Z := Z) (UpZ.keeps k5)).up u6
        obtain ⟨s1, s2, s3, sn, IS⟩ := M6.wd.sc.s
        have IS6 := IS.keeps hideAll_stays
        refine Ds.ret (Do.mono (Do.ifExp (R := fun v h' => (∃ t, v = .int i t) ∧ Done w N Z a digits taken h i h') (P := fun c h' => c = true ∧ X2 (fun gs' ds' => Rm w N Z (yd L) h h' a gs' ds' (rs ++ [n]) x2 y2 (rows ++ [newRow]) (rows ++ [newRow]) (some i) digits taken ∧ UpZ N (yd L ++ Z) h6 h'))
          (Dt.cmp (P := fun v h' => (∃ t, v = .int rows.length t) ∧ X2 (fun gs' ds' => Rm w N Z (yd L) h h' a gs' ds' (rs ++ [n]) x2 y2 (rows ++ [newRow]) (rows ++ [newRow]) (some i) digits taken ∧ UpZ N (yd L ++ Z) h6 h'))
            (P2 := fun v u h' => ((∃ t, v = .int rows.length t) ∧ ∃ t, u = .int rows.length t) ∧ X2 (fun gs' ds' => Rm w N Z (yd L) h h' a gs' ds' (rs ++ [n]) x2 y2 (rows ++ [newRow]) (rows ++ [newRow]) (some i) digits taken ∧ UpZ N (yd L ++ Z) h6 h'))
            (Do.attr (DoMethod0 M6.ok IS6 om_spawn rfl ke.1 (Pe.cell f6.sc rfl) (spawn_spec M6.ok (lw1 _).ar.less M6.wd.sc M6.is (by with_reducible first | exact Int.natCast_nonneg _ | exact z63 (by assumption) (by assumption) | exact z65 (by assumption) (by assumption) | exact zn (by assumption) | exact le5 (by assumption) (by assumption) | exact Int.ofNat_lt.mpr (by assumption) | exact Nat.le_of_lt (by assumption) | exact Nat.le_trans (by assumption) (by decide) | omega) M6.wd.hiS M6.wd.hiA)) fun u h7 p => ?_) (fun v h7 p => ?_) fun v u h7 p => ?_) ?_ ?_) ?_)
        · obtain ⟨g, d, rfl, SC7, k7, hd7, nd7, ng7⟩ := p
          obtain ⟨M7, u7⟩ := M6.spawned k7 SC7 hd7
          obtain ⟨g', d', hg', hd', G⟩ := M7.wd.sc.look (i := rows.length) (r := newRow) (by first | exact List.mem_append_left _ (.head _) | exact List.mem_append_left _ (.tail _ (.head _)) | exact List.mem_append_left _ (.tail _ (.tail _ (.head _))) | exact List.mem_append_left _ (.tail _ (.tail _ (.tail _ (.head _)))) | exact .head _ | exact .tail _ (.head _) | simp)
          have eg : g' = g := by
            have := hg'
            rw [← glen] at this
            simpa using this.symm
          subst eg
          obtain ⟨es, ne, I, ti, ts, wv, fr, av, g1, g2, g3, g4, g5, hw, ha⟩ := G.inst
          refine (DoGetAttr M7.ok (I.keeps hideAll_stays) oa_71_number g1 rfl).mono ?_
          refine i2 ?_
          exact ⟨⟨_, rfl⟩, _, _, M7, u7⟩
        · obtain ⟨⟨t, rfl⟩, gs', ds', M7, u7⟩ := p
          have f7 := f6.up u7
          have R7 := (plain_of_hide M7.wd.rw.rlp).isList
          refine (Pe.to (Pe.sub (Pe.len M7.ok gl_len R7 (by first | with_reducible exact zlen (by assumption) | with_reducible exact zlenE (by assumption) (by assumption) | with_reducible exact zvs (by assumption) | with_reducible exact zvsE (by assumption) (by assumption) | (simp; omega)) (Pe.loc f7.lo rfl)) Pe.int) (show _ = D.int rows.length by simp [rlen])).mono ?_
          refine i2t fun t2 => ?_
          exact ⟨⟨⟨_, rfl⟩, _, rfl⟩, gs', ds', M7, u7⟩
        · obtain ⟨⟨⟨t, rfl⟩, t2, rfl⟩, gs', ds', M7, u7⟩ := p
          refine (Cmp.eq _ _ ⟨_, rfl⟩ ⟨_, rfl⟩).mono ?_
          refine i2 ?_
          exact ⟨_, rfl, by simp, gs', ds', M7, u7⟩
        · rintro h7 ⟨-, gs', ds', M7, u7⟩
          refine (Pe.loc (d := .int i) (f6.up u7).lo rfl).mono ?_
          refine i2t fun t => ?_
          refine ⟨⟨t, rfl⟩, M7.done ⟨by simp; omega, fun z hz => ?_⟩⟩
          rcases List.mem_append.mp hz with hz | hz
          · exact fine.st z hz
          · rw [List.mem_singleton.mp hz]; decide +kernel
        · rintro h7 ⟨hf, -⟩
          cases hf
        · rintro v h8 q
          exact ⟨⟨_, rfl⟩, hRR _ _ q⟩
    refine i1 fun _ => ?_
    have hi : i < rows.length := M3.wd.sc.lo i rfl
    obtain ⟨ri, hri⟩ : ∃ r, rows[i]? = some r := ⟨_, List.getElem?_eq_getElem hi⟩
    obtain ⟨bi, tsi, wvi, avi, hbi, hbm, hli, hwi, hai⟩ := M3.row hri
    have eRi : (rs.map Value.ref).toArray[((i : Int)).toNat]? = some (.ref bi) := by simp [hbi]
    have okri := fine.st ri (List.mem_of_getElem? hri)
    have zL : ∀ env : Env, env.frame = some L → ∀ b ∈ zs (env :: l), b ∈ yd L ++ Z := fun env hf b hb => by
      rw [zs_cons hf] at hb
      revert b hb; refine Mine.allc ?_ fun b hb => ?_
      · simp
      · exact List.mem_append_right _ (zz b hb)
    have fL : ∀ env : Env, env.frame = some L → ∀ b ∈ zs (env :: l), N ≤ b := fun env hf b hb => by
      rw [zs_cons hf] at hb
      revert b hb; refine Mine.allc ?_ fun b hb => ?_
      · rw [hL]; exact hNs
      · exact fN b hb
    refine Ds.ifRet (T := fun c h' => h' = h3 ∧ c = (r == 1)) (Pt.cmp Cmp.eq (Pe.loc f3.lo rfl) Pe.int) ?_ ?_
    · refine i1 fun hc => ?_
      refine Ds.ifRet (T := fun c h' => h' = h3 ∧ c = (ri.st != "ready")) (Pt.cmp (a := .str ri.st) Cmp.neS (Pe.item hli (by decide) (by decide) rfl ⟨_, rfl⟩ (Pe.item (d := .ref bi) R3.isList (by with_reducible first | exact Int.natCast_nonneg _ | exact z63 (by assumption) (by assumption) | exact z65 (by assumption) (by assumption) | exact zn (by assumption) | exact le5 (by assumption) (by assumption) | exact Int.ofNat_lt.mpr (by assumption) | exact Nat.le_of_lt (by assumption) | exact Nat.le_trans (by assumption) (by decide) | omega) (by with_reducible first | exact Int.natCast_nonneg _ | exact z63 (by assumption) (by assumption) | exact z65 (by assumption) (by assumption) | exact zn (by assumption) | exact le5 (by assumption) (by assumption) | exact Int.ofNat_lt.mpr (by assumption) | exact Nat.le_of_lt (by assumption) | exact Nat.le_trans (by assumption) (by decide) | omega) eRi rfl (Pe.loc f3.lo rfl) (Pe.loc f3.lo rfl)) Pe.int) Pe.str) ?_ ?_
      · refine i1 fun hne => ?_
        have hst : (ri.st == "ready") = false := by simpa [bne] using hne.symm
        refine Ds.ret (Do.mono (Do.ifExp (R := fun v h' => (∃ t, v = .int i t) ∧ Done w N Z a digits taken h i h') (P := fun c h' => c = true ∧ Rm w N Z (yd L) h h' a gs ds rs x2 y2 rows rows (some i) digits taken ∧ UpZ N (yd L ++ Z) h3 h')
          (Dt.value (DoFellLam M3 (lw1 _).less (Around.frames_deeper hfr) (F3.cons rfl rfl f3.lo) (zL _ rfl) hN (fL _ rfl) rfl fun A' l' h1 L' f c' h2 M1 u1 hfr' F' lw' b2 => ?_) fun v h7 p => ⟨true, p.1, rfl, p.2⟩) ?_ ?_) ?_)
        · have f1 := f3.up u1
          have B2 := M1.ok.keeps b2.st
          have SC2 := (M1.wd.sc.keeps hideAll_stays).keeps b2.st
          obtain ⟨s1, s2, s3, sn, IS⟩ := SC2.s
          refine Falls.mono (FalMethodP B2 IS om_block rfl ke.2.2.2.1 (Pe.free (f1.sc.at fun o e => b2.st _ _ e) rfl) (Args.plain1 Pe.str Args.plain0) fun vs h3 p => ?_) fun e h' fl => ⟨h2, [], b2, .inr fl⟩
          revert h3 p; refine i1 fun q => ?_
          obtain ⟨v, rfl, t, rfl⟩ := q.one
          exact ⟨B2, block_falls B2 lw'.deeper.less (Around.frames_deeper hfr') (framesOk_push (env := envX _ _ L' _ _ _) rfl rfl b2 F') SC2 hri hst⟩
        · rintro h7 ⟨-, M7, u7⟩
          refine (Pe.loc (d := .int i) (f3.up u7).lo rfl).mono ?_
          refine i2t fun t => ?_
          exact ⟨⟨t, rfl⟩, M7.done fine⟩
        · rintro h7 ⟨hf, -⟩
          cases hf
        · rintro v h8 q
          exact ⟨⟨_, rfl⟩, ⟨_, rfl⟩, hRR _ _ q⟩
      · refine i1 fun hne => ?_
        have hst : ri.st = "ready" := by simpa [bne] using hne.symm
        obtain ⟨s1, s2, s3, sn, IS⟩ := M3.wd.sc.s
        refine DsExpr (P := fun h' => X2 (fun gs' ds' => Rm w N Z (yd L) h h' a gs' ds' rs x2 y2 (rows.set i { ri with st := "blocked", wt := some k }) rows (some i) digits taken ∧ UpZ N (yd L ++ Z) h3 h'))
          (DoMethodP (P := fun vs h7 => h3.StaysIn h7 ∧ X4 (fun T u tk n => C3 (vs = [.ref T]) (h3.get? T = none) (h7.get? T = some (tupObj #[.str "waits" u, .int k tk] n)))) M3.ok (IS.keeps hideAll_stays) om_block rfl ke.2.2.2.1 (Pe.cell f3.sc rfl)
            (Args.cons (P := fun v h7 => h3.StaysIn h7 ∧ X4 (fun T u tk n => C3 (v = .ref T) (h3.get? T = none) (h7.get? T = some (tupObj #[.str "waits" u, .int k tk] n)))) (DoTuple (Args.plain1 Pe.str (Args.plain1 (Pe.cell f3.nu rfl) Args.plain0)) fun vs h7 p => ?_) fun v h7 p => Args.nil ?_) fun vs h7 p => ?_) fun h7 p => ?_
        · revert h7 p; refine i1 fun q => ?_
          obtain ⟨u, v, rfl, ⟨tu, rfl⟩, ⟨tv, rfl⟩⟩ := q.two
          exact ⟨by show 2 ≤ sizeLine; decide, fun h8 T n k8 nT _ eT => ⟨k8, T, tu, tv, n, rfl, nT, eT⟩⟩
        · obtain ⟨k7, T, u, tk, n, rfl, nT, eT⟩ := p
          exact ⟨k7, T, u, tk, n, rfl, nT, eT⟩
        · obtain ⟨k7, T, u, tk, n, rfl, nT, eT⟩ := p
          have M7 := M3.keeps k7
          obtain ⟨g, d, hg, hd, G⟩ := M7.wd.sc.look hri
          refine ⟨M7.ok, (block_spec (g := g) M7.ok (lw1 _).ar.less M7.wd.sc hd hri (M7.wd.hiD d (List.mem_of_getElem? hd)) hst ⟨T, u, tk, n, rfl, hideAll_get _ eT (M3.fresh nT)⟩).mono ?_⟩
          rintro v h8 ⟨k8, SC8⟩
          obtain ⟨M8, u8⟩ := M7.ruled (List.mem_of_getElem? hd) k8 SC8
          exact ⟨_, _, M8, (UpZ.keeps k7).trans u8⟩
        · obtain ⟨gs', ds', M7, u7⟩ := p
          have f7 := f3.up u7
          obtain ⟨bi', tsi', wvi', avi', hbi', -, hli', -, hai'⟩ := M7.row hri
          rw [hbi] at hbi'; cases hbi'
          have R7 := (plain_of_hide M7.wd.rw.rlp).isList
          refine Ds.setItem (P := fun v h8 => h7.StaysIn h8 ∧ X6 (fun N ts T u tk n => C5 (v = .ref N) (h7.get? N = none) (h8.IsList N #[.str "blocked" ts, .ref T]) (h7.get? T = none) (h8.get? T = some (tupObj #[.str "waits" u, .int k tk] n))))
            (P4 := fun h' => Rm w N Z (yd L) h h' a gs' ds' rs x2 y2 (rows.set i { ri with st := "blocked", wt := some k }) (rows.set i { ri with st := "blocked", wt := some k }) (some i) digits taken ∧ UpZ N (yd L ++ Z) h7 h')
            (DoList (P := fun vs h8 => h7.StaysIn h8 ∧ X5 (fun ts T u tk n => C3 (vs = [.str "blocked" ts, .ref T]) (h7.get? T = none) (h8.get? T = some (tupObj #[.str "waits" u, .int k tk] n)))) (Args.cons Pe.str fun v h8 p => ?_) fun vs h8 p => ?_) (fun v h8 p => ?_) fun h8 p => ?_
          · revert v h8 p; refine Mine.i2t fun ts => ?_
            refine Args.cons (P := fun v h9 => h7.StaysIn h9 ∧ X4 (fun T u tk n => C3 (v = .ref T) (h7.get? T = none) (h9.get? T = some (tupObj #[.str "waits" u, .int k tk] n)))) (DoTuple (Args.plain1 Pe.str (Args.plain1 (Pe.cell f7.nu rfl) Args.plain0)) fun vs h9 p => ?_) fun v h9 p => Args.nil ?_
            · revert h9 p; refine i1 fun q => ?_
              obtain ⟨u, v, rfl, ⟨tu, rfl⟩, ⟨tv, rfl⟩⟩ := q.two
              exact ⟨by show 2 ≤ sizeLine; decide, fun h10 T n k10 nT _ eT => ⟨k10, T, tu, tv, n, rfl, nT, eT⟩⟩
            · obtain ⟨k9, T, u, tk, n, rfl, nT, eT⟩ := p
              exact ⟨k9, ts, T, u, tk, n, rfl, nT, eT⟩
          · obtain ⟨k8, ts, T, u, tk, n, rfl, nT, eT⟩ := p
            refine ⟨by show 2 ≤ sizeLine; decide, fun h9 N k9 nN _ eN => ⟨fun c o e => k9 _ _ (k8 _ _ e), N, ts, T, u, tk, n, rfl, ?_, eN.isList, nT, k9 _ _ eT⟩⟩
            exact fresh_of k8 nN
          · obtain ⟨k8, N, ts, T, u, tk, n, rfl, nN, lN, nT, eT⟩ := p
            have f8 := f7.up (N := N) (Z := Z) (UpZ.keeps k8)
            have M8 := M7.keeps k8
            refine (Pe.item (d := .ref bi) (IsList_keeps R7 k8) (by with_reducible first | exact Int.natCast_nonneg _ | exact z63 (by assumption) (by assumption) | exact z65 (by assumption) (by assumption) | exact zn (by assumption) | exact le5 (by assumption) (by assumption) | exact Int.ofNat_lt.mpr (by assumption) | exact Nat.le_of_lt (by assumption) | exact Nat.le_trans (by assumption) (by decide) | omega) (by with_reducible first | exact Int.natCast_nonneg _ | exact z63 (by assumption) (by assumption) | exact z65 (by assumption) (by assumption) | exact zn (by assumption) | exact le5 (by assumption) (by assumption) | exact Int.ofNat_lt.mpr (by assumption) | exact Nat.le_of_lt (by assumption) | exact Nat.le_trans (by assumption) (by decide) | omega) eRi rfl (Pe.loc f8.lo rfl) (Pe.loc f8.lo rfl)).mono ?_
            refine i2 ?_
            refine ⟨_, DoSlice2, ?_⟩
            rintro iv h10 ⟨k10, sl, t2, rfl, isl⟩
            have hneN : bi ≠ N := fun q => by
              obtain ⟨o, e, _⟩ := hli'
              exact no_at q nN e
            have M10 := M8.keeps k10
            refine (DoSetSlice2 (IsList_keeps (IsList_keeps hli' k8) k10) isl (IsList_keeps lN k10) hneN).mono ?_
            rintro u' h11 ⟨l11, s11⟩
            have ob := M10.out (.tail _ (.tail _ (.tail _ (.tail _ hbm))))
            have hTb : T ≠ bi := fun q => by
              obtain ⟨o, e, _⟩ := hli'
              exact no_at (Eq.symm q) nT e
            obtain ⟨M11, u11⟩ := M10.turned hbi hri (SameBut.but s11) (r' := { ri with st := "blocked", wt := some k }) ⟨ts, .ref T, avi', isList_hide l11 ob, ⟨T, u, tk, n, rfl, hideAll_get _ (SameBut.but s11 _ _ hTb (k10 _ _ eT)) (M7.fresh nT)⟩, hai'⟩
            exact ⟨M11, ((UpZ.keeps k8).trans (UpZ.keeps k10)).trans u11⟩
          · obtain ⟨M8, u8⟩ := p
            refine Ds.ret ((Pe.loc (d := .int i) (f7.up u8).lo rfl).mono ?_)
            refine Mine.i2t fun t => ?_
            exact ⟨⟨_, rfl⟩, hRR _ _ ⟨⟨t, rfl⟩, M8.done (fine.set (show PyData.strOk (Str.ofString "blocked") = true by decide +kernel))⟩⟩
    refine i1 fun _ => ?_
    refine Ds.ifRet (T := fun c h' => h' = h3 ∧ c = (r == 2)) (Pt.cmp Cmp.eq (Pe.loc f3.lo rfl) Pe.int) ?_ ?_
    · refine i1 fun hc => ?_
      refine DsAssignPair (lw1 _).hh (P := fun v h7 => h3.StaysIn h7 ∧ X3 (fun T va n => C3 (v = .ref T) ((anDd ri.an).Is va) (h7.get? T = some (tupObj #[va, .none] n))))
        (P6 := fun h' => Rm w N Z (yd L) h h' a gs ds rs x2 y2 rows (rows.set i { ri with an := none }) (some i) digits taken ∧ Df L a.S k (("told", anDd ri.an) :: [("way", .int r), ("here", .int i), ("rows", .ref a.R), ("source", .ref a.src)]) h')
        (DoTuple (Args.plain1 (Pe.item (d := anDd ri.an) hli (i := 2) (by decide) (by decide) rfl hai.d (Pe.item (d := .ref bi) R3.isList (by with_reducible first | exact Int.natCast_nonneg _ | exact z63 (by assumption) (by assumption) | exact z65 (by assumption) (by assumption) | exact zn (by assumption) | exact le5 (by assumption) (by assumption) | exact Int.ofNat_lt.mpr (by assumption) | exact Nat.le_of_lt (by assumption) | exact Nat.le_trans (by assumption) (by decide) | omega) (by with_reducible first | exact Int.natCast_nonneg _ | exact z63 (by assumption) (by assumption) | exact z65 (by assumption) (by assumption) | exact zn (by assumption) | exact le5 (by assumption) (by assumption) | exact Int.ofNat_lt.mpr (by assumption) | exact Nat.le_of_lt (by assumption) | exact Nat.le_trans (by assumption) (by decide) | omega) eRi rfl (Pe.loc f3.lo rfl) (Pe.loc f3.lo rfl)) Pe.int) (Args.plain1 Pe.none Args.plain0)) fun vs h7 p => ?_) (fun v h7 p => ?_) fun h7 p => ?_
      · revert h7 p; refine Mine.i1 fun q => ?_
        obtain ⟨u, v, rfl, hu, rfl⟩ := q.two
        exact ⟨by show 2 ≤ sizeLine; decide, fun h8 T n k8 nT _ eT => ⟨k8, T, u, n, rfl, hu, eT⟩⟩
      · obtain ⟨k7, T, va, n, rfl, hva, eT⟩ := p
        refine ⟨T, va, .none, rfl, ⟨_, eT, rfl, n, rfl⟩, fun h8 k8 => ?_⟩
        have k68 : h3.StaysIn h8 := fun c o e => k8 _ _ (k7 _ _ e)
        have f8 := f3.up (N := N) (Z := Z) (UpZ.keeps k68)
        have M8 := M3.keeps k68
        refine (DoStore f8.lo.bd hva).mono ?_
        rintro _ h9 ⟨b9, s9⟩
        have M9 := M8.ownLo (List.mem_cons_self ..) (LZ L (by first | exact List.mem_append_left _ (.head _) | exact List.mem_append_left _ (.tail _ (.head _)) | exact List.mem_append_left _ (.tail _ (.tail _ (.head _))) | exact List.mem_append_left _ (.tail _ (.tail _ (.tail _ (.head _)))) | exact .head _ | exact .tail _ (.head _) | simp)) (SameBut.but s9) b9.lo
        have f9 := f8.own (SameBut.but s9) b9.lo
        obtain ⟨bi', tsi', wvi', avi', hbi', -, hli', hwi', hai'⟩ := M9.row hri
        rw [hbi] at hbi'; cases hbi'
        have R9 := (plain_of_hide M9.wd.rw.rlp).isList
        refine (Pe.item (d := .ref bi) R9 (by with_reducible first | exact Int.natCast_nonneg _ | exact z63 (by assumption) (by assumption) | exact z65 (by assumption) (by assumption) | exact zn (by assumption) | exact le5 (by assumption) (by assumption) | exact Int.ofNat_lt.mpr (by assumption) | exact Nat.le_of_lt (by assumption) | exact Nat.le_trans (by assumption) (by decide) | omega) (by with_reducible first | exact Int.natCast_nonneg _ | exact z63 (by assumption) (by assumption) | exact z65 (by assumption) (by assumption) | exact zn (by assumption) | exact le5 (by assumption) (by assumption) | exact Int.ofNat_lt.mpr (by assumption) | exact Nat.le_of_lt (by assumption) | exact Nat.le_trans (by assumption) (by decide) | omega) eRi rfl (Pe.loc f9.lo rfl) (Pe.loc f9.lo rfl)).mono ?_
        refine i2 ?_
        refine ⟨_, Pe.int, ?_⟩
        refine Mine.i2t fun t2 => ?_
        refine (DoSetItem hli' (by decide) (by decide) (by first | exact List.mem_append_left _ (.head _) | exact List.mem_append_left _ (.tail _ (.head _)) | exact List.mem_append_left _ (.tail _ (.tail _ (.head _))) | exact List.mem_append_left _ (.tail _ (.tail _ (.tail _ (.head _)))) | exact .head _ | exact .tail _ (.head _) | simp)).mono ?_
        rintro _ h12 ⟨l12, s12⟩
        have ob := M9.out (.tail _ (.tail _ (.tail _ (.tail _ hbm))))
        have tp : Tups (hideAll h9 (yd L ++ Z)) (hideAll h12 (yd L ++ Z)) := fun c vs n e => by
          refine hideAll_get _ (SameBut.but s12 _ _ (fun q => ?_) (of_hideAll _ e)) (hide_no e)
          exact list_notup hli' vs n (q ▸ of_hideAll _ e)
        obtain ⟨M12, u12⟩ := M9.turned hbi hri (SameBut.but s12) (r' := { ri with an := none }) ⟨tsi', wvi', .none, isList_hide l12 ob, hwi'.off tp, rfl⟩
        exact ⟨M12, f9.up u12⟩
      · obtain ⟨M7, f7⟩ := p
        obtain ⟨s1, s2, s3, sn, IS⟩ := M7.wd.sc.s
        obtain ⟨g, d, hg, hd, G⟩ := M7.wd.sc.look hri
        refine Ds.ret (Do.mono (Do.ifExp (R := fun v h' => (∃ t, v = .int i t) ∧ Done w N Z a digits taken h i h') (P := fun c h' => c = true ∧ Rm w N Z (yd L) h h' a gs ds rs x2 y2 (rows.set i { ri with an := none }) (rows.set i { ri with an := none }) (some i) digits taken ∧ UpZ N (yd L ++ Z) h7 h')
          (Dt.cmp (P := fun v h' => AnIs v ri.an ∧ Rm w N Z (yd L) h h' a gs ds rs x2 y2 (rows.set i { ri with an := none }) (rows.set i { ri with an := none }) (some i) digits taken ∧ UpZ N (yd L ++ Z) h7 h')
            (P2 := fun v u h' => (AnIs v ri.an ∧ (anDd ri.an).Is u) ∧ Rm w N Z (yd L) h h' a gs ds rs x2 y2 (rows.set i { ri with an := none }) (rows.set i { ri with an := none }) (some i) digits taken ∧ UpZ N (yd L ++ Z) h7 h')
            (DoMethod0 M7.ok (IS.keeps hideAll_stays) om_take_answer rfl ke.2.2.2.2.2.1 (Pe.cell f7.sc rfl) (Do.mono (answer_spec (g := g) M7.ok (lw1 _).ar.less M7.wd.sc hd hri (M7.wd.hiD d (List.mem_of_getElem? hd))) fun v h8 p => ?_)) (fun v h8 p => ?_) fun v u h8 p => ?_) ?_ ?_) ?_)
        · obtain ⟨hv, k8, SC8⟩ := p
          obtain ⟨M8, u8⟩ := M7.ruled (List.mem_of_getElem? hd) k8 SC8
          exact ⟨hv, M8, u8⟩
        · obtain ⟨hv, M8, u8⟩ := p
          refine (Pe.loc (d := anDd ri.an) (f7.up u8).lo rfl).mono ?_
          refine i1v fun u hu => ?_
          exact ⟨⟨hv, hu⟩, M8, u8⟩
        · obtain ⟨⟨hv, hu⟩, M8, u8⟩ := p
          refine (Cmp.anEq ri.an _ _ hv.d hu).mono ?_
          refine i2 ?_
          exact ⟨_, rfl, rfl, M8, u8⟩
        · rintro h8 ⟨-, M8, u8⟩
          refine (Pe.loc (d := .int i) (f7.up u8).lo rfl).mono ?_
          refine Mine.i2t fun t => ?_
          exact ⟨⟨t, rfl⟩, M8.done (fine.set okri)⟩
        · rintro h8 ⟨hf, -⟩
          cases hf
        · rintro v h8 q
          exact ⟨⟨_, rfl⟩, hRR _ _ q⟩
    refine i1 fun _ => ?_
    -- goal
    refine DsCell (P := fun v h7 => X4 (fun r t x' y' => C5 (v = .int r t) (0 ≤ r) (r < rows.length + 1) (Rm w N Z (yd L) h h7 a gs ds rs x' y' rows rows (some i) digits taken) (UpZ N (yd L ++ Z) h3 h7)))
      (Do.mono (DoTake M3.ok ((lw1 _).ar.less (m := 1)).dp M3.src (top := rows.length + 1) (by with_reducible first | exact Int.natCast_nonneg _ | exact z63 (by assumption) (by assumption) | exact z65 (by assumption) (by assumption) | exact zn (by assumption) | exact le5 (by assumption) (by assumption) | exact Int.ofNat_lt.mpr (by assumption) | exact Nat.le_of_lt (by assumption) | exact Nat.le_trans (by assumption) (by decide) | omega) (by with_reducible first | exact Int.natCast_nonneg _ | exact z63 (by assumption) (by assumption) | exact z65 (by assumption) (by assumption) | exact zn (by assumption) | exact le5 (by assumption) (by assumption) | exact Int.ofNat_lt.mpr (by assumption) | exact Nat.le_of_lt (by assumption) | exact Nat.le_trans (by assumption) (by decide) | omega) (Pe.loc f3.lo rfl) (Pe.to (Pe.add (Pe.len M3.ok gl_len R3.isList (by first | with_reducible exact zlenE (by assumption) (by assumption) | (rw [zR]; omega)) (Pe.loc f3.lo rfl)) Pe.int) (by rw [zR]))) ?_) fun v h7 p => ?_
    · rintro v h7 ⟨r', t', x', y', rfl, r0', r5', S7, k7⟩
      obtain ⟨M7, u7⟩ := M3.drawn k7 S7
      exact ⟨r', t', x', y', rfl, r0', r5', M7, u7⟩
    obtain ⟨r', t', x', y', rfl, g0, g1, M7, u7⟩ := p
    obtain ⟨j, rfl⟩ := Int.eq_ofNat_of_zero_le g0
    have f7 := f3.up u7
    obtain ⟨v0, hv0⟩ := f7.go
    refine ⟨L + 1 + 1 + 1, v0, rfl, hv0, fun h8 c8 k8 => ?_⟩
    have f8 := f7.cell k8 c8
    have M8 : Rm w N Z (yd L) h h8 a gs ds rs x' y' rows rows (some i) digits taken := by
      obtain ⟨o, e, d⟩ := c8
      exact M7.own (L := L + 1 + 1 + 1) (by first | exact List.mem_append_left _ (.head _) | exact List.mem_append_left _ (.tail _ (.head _)) | exact List.mem_append_left _ (.tail _ (.tail _ (.head _))) | exact List.mem_append_left _ (.tail _ (.tail _ (.tail _ (.head _)))) | exact .head _ | exact .tail _ (.head _) | simp) (LZ _ (by first | exact List.mem_append_left _ (.head _) | exact List.mem_append_left _ (.tail _ (.head _)) | exact List.mem_append_left _ (.tail _ (.tail _ (.head _))) | exact List.mem_append_left _ (.tail _ (.tail _ (.tail _ (.head _)))) | exact .head _ | exact .tail _ (.head _) | simp)) k8 e
    have gl : CellAt h8 (L + 1 + 1 + 1) (.int j) := ⟨_, c8, _, rfl⟩
    have F8 : FOk l h8 := F.up M8.up zz
    have R8 : h8.PlainList a.R (rs.map Value.ref).toArray := plain_of_hide M8.wd.rw.rlp
    clear f3 M3 F3 R3 f7 M7 u7 hv0 c8 k8 hwi hli
    have kind : ∀ c : Bool, c = (if j = rows.length then true else match rows[j]? with | some rj => rj.st != "blocked" | none => true) → True := fun _ _ => trivial
    clear kind
    have jl : j < rows.length ∨ j = rows.length := Nat.lt_or_eq_of_le (Int.ofNat_le.mp (Int.lt_add_one_iff.mp g1))
    refine Ds.ifRet (T := fun c h' => h' = h8 ∧ ((c = true ∧ ((j : Int) = gs.length ∨ X2 (fun (j' : Nat) (rj : Row) => C3 ((j : Int) = j') (rows[j']? = some rj) ((rj.st == "blocked") = false)))) ∨ (c = false ∧ ∃ rj, rows[j]? = some rj ∧ rj.st = "blocked")))
      (Dt.or2 (P := fun c h' => h' = h8 ∧ c = ((j : Int) == rows.length)) (Do.mono (Pt.cmp Cmp.eq (Pe.cell gl rfl) (Pe.len M8.ok gl_len R8.isList (by first | with_reducible exact zlenE (by assumption) (by assumption) | (rw [zR]; omega)) (Pe.loc f8.lo rfl))) fun c h9 p => ⟨p.1, by rw [p.2, zR]⟩) (fun h9 p => ?_) fun h9 p => ⟨p.1, .inl ⟨rfl, .inl ?_⟩⟩) ?_ ?_
    · revert h9 p; refine i1 fun hc => ?_
      have hj : j < rows.length := by
        have : ¬ (j : Int) = rows.length := by first | exact of_decide_eq_true hc.symm | exact of_decide_eq_false hc.symm | simpa using hc.symm
        exact jl.resolve_right fun e => this (congrArg Int.ofNat e)
      obtain ⟨rj, hrj⟩ : ∃ r, rows[j]? = some r := ⟨_, List.getElem?_eq_getElem hj⟩
      obtain ⟨bj, tsj, wvj, avj, hbj, hbm', hlj, hwj, haj⟩ := M8.row hrj
      refine Do.mono (Pt.cmp (a := .str rj.st) (b := .str "blocked") Cmp.neS (Pe.item hlj (by decide) (by decide) rfl ⟨_, rfl⟩ (Pe.item (d := .ref bj) R8.isList (i := j) (by with_reducible first | exact Int.natCast_nonneg _ | exact z63 (by assumption) (by assumption) | exact z65 (by assumption) (by assumption) | exact zn (by assumption) | exact le5 (by assumption) (by assumption) | exact Int.ofNat_lt.mpr (by assumption) | exact Nat.le_of_lt (by assumption) | exact Nat.le_trans (by assumption) (by decide) | omega) (by with_reducible first | exact Int.natCast_nonneg _ | exact z63 (by assumption) (by assumption) | exact z65 (by assumption) (by assumption) | exact zn (by assumption) | exact le5 (by assumption) (by assumption) | exact Int.ofNat_lt.mpr (by assumption) | exact Nat.le_of_lt (by assumption) | exact Nat.le_trans (by assumption) (by decide) | omega) (by first | exact gi hbj | simp [hbj]) rfl (Pe.loc f8.lo rfl) (Pe.cell gl rfl)) Pe.int) Pe.str) ?_
      refine i2 ?_
      refine ⟨rfl, ?_⟩
      cases hb : (rj.st == "blocked") with
      | false => exact .inl ⟨by simp [bne, hb], .inr ⟨j, rj, rfl, hrj, hb⟩⟩
      | true => exact .inr ⟨by simp [bne, hb], rj, hrj, by simpa using hb⟩
    · have := p.2
      rw [glen]
      simpa using this.symm
    · refine i1 fun q => ?_
      have hq : (j : Int) = gs.length ∨ X2 (fun (j' : Nat) (rj : Row) => C3 ((j : Int) = j') (rows[j']? = some rj) ((rj.st == "blocked") = false)) := by
        rcases q with q | q
        · exact q.2
        · cases q.1
      refine Ds.ret (Do.mono (Do.ifExp (R := fun v h' => (∃ t, v = .int i t) ∧ Done w N Z a digits taken h i h') (P := fun c h' => c = true ∧ Rm w N Z (yd L) h h' a gs ds rs x' y' rows rows (some i) digits taken ∧ UpZ N (yd L ++ Z) h8 h')
        (Dt.value (DoFellLam M8 (lw1 _).less (Around.frames_deeper hfr) (F8.cons rfl rfl f8.lo) (zL _ rfl) hN (fL _ rfl) rfl fun A' l' h1 L' f c' h2 M1 u1 hfr' F' lw' b2 => ?_) fun v h7 p => ⟨true, p.1, rfl, p.2⟩) ?_ ?_) ?_)
      · have f1 := f8.up u1
        have gl1 := u1.cellAt (by first | exact List.mem_append_left _ (.head _) | exact List.mem_append_left _ (.tail _ (.head _)) | exact List.mem_append_left _ (.tail _ (.tail _ (.head _))) | exact List.mem_append_left _ (.tail _ (.tail _ (.tail _ (.head _)))) | exact .head _ | exact .tail _ (.head _) | simp) gl
        have B2 := M1.ok.keeps b2.st
        have SC2 := (M1.wd.sc.keeps hideAll_stays).keeps b2.st
        obtain ⟨s1, s2, s3, sn, IS⟩ := SC2.s
        refine Falls.mono (FalMethodP B2 IS om_wake rfl ke.2.2.2.2.1 (Pe.free (f1.sc.at fun o e => b2.st _ _ e) rfl) (Args.plain1 (Pe.free (gl1.at fun o e => b2.st _ _ e) rfl) (Args.plain1 (Pe.free (f1.nu.at fun o e => b2.st _ _ e) rfl) Args.plain0)) fun vs h3 p => ?_) fun e h' fl => ⟨h2, [], b2, .inr fl⟩
        revert h3 p; refine i1 fun q => ?_
        obtain ⟨u, v, rfl, ⟨tu, rfl⟩, ⟨tv, rfl⟩⟩ := q.two
        exact ⟨B2, wake_falls B2 lw'.deeper (Around.frames_deeper hfr') (framesOk_push (env := envX _ _ L' _ _ _) rfl rfl b2 F') SC2 (by with_reducible first | exact Int.natCast_nonneg _ | exact z63 (by assumption) (by assumption) | exact z65 (by assumption) (by assumption) | exact zn (by assumption) | exact le5 (by assumption) (by assumption) | exact Int.ofNat_lt.mpr (by assumption) | exact Nat.le_of_lt (by assumption) | exact Nat.le_trans (by assumption) (by decide) | omega) hq⟩
      · rintro h7 ⟨-, M7, u7⟩
        refine (Pe.loc (d := .int i) (f8.up u7).lo rfl).mono ?_
        refine i2t fun t => ?_
        exact ⟨⟨t, rfl⟩, M7.done fine⟩
      · rintro h7 ⟨hf, -⟩
        cases hf
      · rintro v h8 q
        exact ⟨⟨_, rfl⟩, hRR _ _ q⟩
    refine i1 fun q => ?_
    obtain ⟨rj, hrj, hst⟩ : ∃ rj, rows[j]? = some rj ∧ rj.st = "blocked" := by
      rcases q with q | q
      · cases q.1
      · exact q.2
    have hj : j < rows.length := (List.getElem?_eq_some_iff.mp hrj).1
    obtain ⟨s1, s2, s3, sn, IS⟩ := M8.wd.sc.s
    obtain ⟨g, d, hg, hd, G⟩ := M8.wd.sc.look hrj
    refine DsExpr (P := fun h' => Rm w N Z (yd L) h h' a gs ds rs x' y' (rows.set j { st := "ready", wt := none, an := some k }) rows (some i) digits taken ∧ UpZ N (yd L ++ Z) h8 h')
      (DoMethodP M8.ok (IS.keeps hideAll_stays) om_wake rfl ke.2.2.2.2.1 (Pe.cell f8.sc rfl) (Args.plain1 (Pe.cell gl rfl) (Args.plain1 (Pe.cell f8.nu rfl) Args.plain0)) fun vs h10 p => ?_) fun h10 p => ?_
    · revert h10 p; refine i1 fun q => ?_
      obtain ⟨u, v, rfl, ⟨tu, rfl⟩, ⟨tv, rfl⟩⟩ := q.two
      refine ⟨M8.ok, (wake_spec M8.ok (lw1 _).ar.less M8.wd.sc hd hrj (M8.wd.hiD d (List.mem_of_getElem? hd)) hst (by with_reducible first | exact Int.natCast_nonneg _ | exact z63 (by assumption) (by assumption) | exact z65 (by assumption) (by assumption) | exact zn (by assumption) | exact le5 (by assumption) (by assumption) | exact Int.ofNat_lt.mpr (by assumption) | exact Nat.le_of_lt (by assumption) | exact Nat.le_trans (by assumption) (by decide) | omega)).mono ?_⟩
      rintro v h11 ⟨k11, SC11⟩
      exact M8.ruled (List.mem_of_getElem? hd) k11 SC11
    · obtain ⟨M10, u10⟩ := p
      have f10 := f8.up u10
      have gl10 := u10.cellAt (by first | exact List.mem_append_left _ (.head _) | exact List.mem_append_left _ (.tail _ (.head _)) | exact List.mem_append_left _ (.tail _ (.tail _ (.head _))) | exact List.mem_append_left _ (.tail _ (.tail _ (.tail _ (.head _)))) | exact .head _ | exact .tail _ (.head _) | simp) gl
      have R10 : h10.PlainList a.R (rs.map Value.ref).toArray := plain_of_hide M10.wd.rw.rlp
      refine Ds.setItem (P := fun v h11 => h10.StaysIn h11 ∧ X3 (fun N ts tn => C4 (v = .ref N) (h10.get? N = none) (254 ≤ N) (h11.IsList N #[.str "ready" ts, .none, .int k tn])))
        (P4 := fun h' => ∃ rs', Rm w N Z (yd L) h h' a gs ds rs' x' y' (rows.set j { st := "ready", wt := none, an := some k }) (rows.set j { st := "ready", wt := none, an := some k }) (some i) digits taken ∧ UpZ N (yd L ++ Z) h10 h')
        (DoList (Args.plain1 Pe.str (Args.plain1 Pe.none (Args.plain1 (Pe.cell f10.nu rfl) Args.plain0))) fun vs h11 p => ?_) (fun v h11 p => ?_) fun h11 p => ?_
      · revert h11 p; refine i1 fun q => ?_
        obtain ⟨u, v, t, rfl, ⟨ts, rfl⟩, rfl, ⟨tn, rfl⟩⟩ := q.three
        exact ⟨by show 3 ≤ sizeLine; decide, fun h12 N k12 nN z12 e12 => ⟨k12, N, ts, tn, rfl, nN, Nat.le_trans M10.ok.size z12, e12.isList⟩⟩
      · obtain ⟨k11, N, ts, tn, rfl, nN, n254, lN⟩ := p
        have M11 := M10.keeps k11
        have f11 := f10.up (N := N) (Z := Z) (UpZ.keeps k11)
        have gl11 : CellAt h11 (L + 1 + 1 + 1) (.int j) := gl10.at fun o e => k11 _ _ e
        refine (Pe.loc (d := .ref a.R) f11.lo rfl).mono ?_
        refine i2 ?_
        refine ⟨_, Pe.cell gl11 rfl, ?_⟩
        refine Mine.i2t fun t13 => ?_
        have R11 : h11.PlainList a.R (rs.map Value.ref).toArray := R10.at fun o e => k11 _ _ e
        refine (DoSetItemFlat R11 (by with_reducible first | exact Int.natCast_nonneg _ | exact z63 (by assumption) (by assumption) | exact z65 (by assumption) (by assumption) | exact zn (by assumption) | exact le5 (by assumption) (by assumption) | exact Int.ofNat_lt.mpr (by assumption) | exact Nat.le_of_lt (by assumption) | exact Nat.le_trans (by assumption) (by decide) | omega) (by with_reducible first | exact Int.natCast_nonneg _ | exact z63 (by assumption) (by assumption) | exact z65 (by assumption) (by assumption) | exact zn (by assumption) | exact le5 (by assumption) (by assumption) | exact Int.ofNat_lt.mpr (by assumption) | exact Nat.le_of_lt (by assumption) | exact Nat.le_trans (by assumption) (by decide) | omega) (by first | with_reducible exact zlenE (by assumption) (by assumption) | (rw [zR]; omega))).mono ?_
        rintro u' h14 ⟨l14, s14⟩
        obtain ⟨M14, u14⟩ := M11.swapped (i := j) (by rw [rlen]; exact hj) (M10.newW nN) n254 (SameBut.but s14) l14 (r' := { st := "ready", wt := none, an := some k }) ⟨ts, .none, .int k tn, isList_hide lN (M10.fresh nN), rfl, tn, rfl⟩
        exact ⟨_, M14, (UpZ.keeps k11).trans u14⟩
      · obtain ⟨rs', M11, u11⟩ := p
        refine Ds.ret ((Pe.loc (d := .int i) (f10.up u11).lo rfl).mono ?_)
        refine i2t fun t => ?_
        exact hRR _ _ ⟨⟨t, rfl⟩, M11.done (fine.set (show PyData.strOk (Str.ofString "ready") = true by decide +kernel))⟩
end
end Mine
end

-- Draw0
section
open PySem PySem.W PySem.Calls PyProof.Rows PySem.Spec PySem.SeqAt
set_option tactic.hygienic false
namespace Mine
section
variable {PR : Program} {w : World} {A : Around} {env : Env} {h : Heap}
theorem range_small {n : Nat} (sz : n ≤ 1000) : Builtin.Range.small 0 n 1 = true := small_one (by decide) (by decide) (by with_reducible first | exact Int.natCast_nonneg _ | exact z63 (by assumption) (by assumption) | exact z65 (by assumption) (by assumption) | exact zn (by assumption) | exact le5 (by assumption) (by assumption) | exact Int.ofNat_lt.mpr (by assumption) | exact Nat.le_of_lt (by assumption) | exact Nat.le_trans (by assumption) (by decide) | omega) (by with_reducible first | exact Int.natCast_nonneg _ | exact z63 (by assumption) (by assumption) | exact z65 (by assumption) (by assumption) | exact zn (by assumption) | exact le5 (by assumption) (by assumption) | exact Int.ofNat_lt.mpr (by assumption) | exact Nat.le_of_lt (by assumption) | exact Nat.le_trans (by assumption) (by decide) | omega)
theorem iters_range {x : Str} {px : Pos} {r : Addr} {n : Nat} {t u v : Tok} (hh : A.handled = none) (hr : IsRange h r 0 n 1 t u v) (sz : n ≤ 1000) : Iters PR w A (.Name x px) (.ref r) h h n [] fun i v _ => ∃ t, v = .int (0 + (i : Int)) t where
  go := fun s Q E e q => by
    subst e
    have up : ∀ b o, s.heap.get? b = some o → ∀ ob, (s.heap.push ob).get? b = some o := fun b o e ob => Heap.get?_push_of_some _ e
    refine wpAny_pyIter_range hr (range_small sz) (q _ _ s.toks ⟨_, _, _, _, _, rfl, KTurns.ofWalks (LCg.range_walks (I := s.heap.objs.size) hh 0 n) (fun _ _ _ _ _ _ hq => wpAny_pure hq), ?_, ?_, ?_, ?_, fun b o e => up b o e _, ?_⟩)
    · show IsRangeIter _ _ _ _ _
      rw [range_size]
      simpa using Heap.get?_push_size _ rfl
    · intro i h st b hb
      revert b hb; refine Mine.all1 ?_; exact ⟨_, st⟩
    · intro b hb
      revert b hb; refine Mine.all1 ?_; exact fresh_size (Nat.le_refl _)
    · exact fun b hb => .inl hb
    · exact fun i s Q E st hq => wpAny_pyIter_rangeiter st hq
-- a for over range(n), whose body goes on; I: where the walk stands
theorem DsForRange {x : Str} {px : Pos} {iter : Expr} {body rest : List Stmt} {pos : Pos} {P0 : Value → Heap → Prop} {R : Flow → Heap → Prop} (hh : A.handled = none) (d : Do PR w A (eval iter env) h P0)
    (k : ∀ u h1, P0 u h1 → X6 (fun (r : Addr) (n : Nat) (t u' v : Tok) (J : Addr → Nat → Heap → Prop) => C5 (u = .ref r) (IsRange h1 r 0 n 1 t u' v) (n ≤ 1000) ((∀ I h2, h1.StaysIn h2 → h1.get? I = none → h1.objs.size ≤ I → (∃ o, h2.get? I = some o) → J I 0 h2)) (C3 ((∀ I i h2 h3, J I i h2 → But I h2 h3 → (∃ o, h3.get? I = some o) → J I i h3)) ((∀ I i h2 t, i < n → J I i h2 → Do PR w A (assign (.Name x px) env (.int i t)) h2 fun _ h3 => Do PR w A (execs body env) h3 fun f h4 => f = .next ∧ J I (i + 1) h4 ∧ ∀ o vs, h2.get? I = some o → o.data = .fields vs → h4.get? I = some o)) (∀ I h2 h3, J I n h2 → But I h2 h3 → Do PR w A (execs rest env) h3 R))))
    (hs : ∀ x, foldedSetIterable iter env x = pure x := by intro _; rfl) : Do PR w A (execs (.For (.Name x px) iter body [] pos :: rest) env) h R := fun s Q E e q => by
  refine wpAny_execs_cons (wpAny_For (d s _ E e fun u h1 tk p => ?_) hs)
  obtain ⟨r, n, t, u', v, J, rfl, hr, sz, start, move, turn, fin⟩ := k u h1 p
  refine wpAny_pyIter_range hr (range_small sz) ?_
  rw [range_size]
  have W := LCg.range_walks (prog := PR) (w := w) (I := h1.objs.size) hh 0 n
  refine codeAny_forLoop_any (fun k s' => X3 (fun h' tk i => C5 (s' = { s with heap := h', toks := tk }) (i ≤ n) (k = n + 1 - i) (IsRangeIter h' h1.objs.size (0 + (i : Nat) * 1) ((n : Int) - (i : Nat)) 1) (J h1.objs.size i h'))) ?_ (n + 1) ⟨_, _, 0, rfl, Nat.zero_le _, rfl, ?_, ?_⟩
  · rintro k s' ⟨h', tk, i, rfl, hi, rfl, st, hJ⟩
    by_cases hlt : i < n
    · refine W.item i _ _ _ hlt st fun v h₁ tk₁ hP st₁ hk₁ => ?_
      obtain ⟨tv, rfl⟩ := hP
      refine wpAny_pure ?_
      have J1 := move _ i h' h₁ hJ (fun b o hb e => hk₁ b o (by simpa using hb) e) ⟨_, st₁⟩
      have hz : (0 : Int) + (i : Int) = i := Int.zero_add _
      rw [hz]
      refine turn _ i h₁ tv hlt J1 _ _ _ rfl fun _ h₂ tk₂ p2 => ?_
      refine p2 _ _ _ rfl fun f h₃ tk₃ p3 => ?_
      obtain ⟨rfl, J3, kI⟩ := p3
      exact ⟨n + 1 - (i + 1), ar3 hlt, h₃, tk₃, i + 1, rfl, hlt, rfl, kI _ _ st₁ rfl, J3⟩
    · obtain rfl : i = n := Nat.le_antisymm hi (Nat.not_lt.mp hlt)
      refine W.done _ _ _ st fun h₁ tk₁ hk₁ => wpAny_execs_nil ?_
      exact fin _ h' h₁ hJ (fun b o hb e => hk₁ b o (by simpa using hb) e) _ Q E rfl fun v h' tk r => q v h' tk r
  · show IsRangeIter _ _ _ _ _
    simpa using Heap.get?_push_size _ rfl
  · exact start _ _ (fun b o e => Heap.get?_push_of_some _ e) (fresh_size (Nat.le_refl _)) (Nat.le_refl _) ⟨_, Heap.get?_push_size _ rfl⟩
end
end Mine
end

-- Draw1
section
open PySem PySem.W PySem.Calls PyProof.Rows PySem.Spec PySem.SeqAt
set_option tactic.hygienic false
namespace Mine
theorem ints_snoc {ys : List Value} {ns : List Int} {r : Int} {t : Tok} (x : IntsAre ys ns) : IntsAre (ys ++ [.int r t]) (ns ++ [r]) := by
  induction x with
  | nil => exact .cons _ _ .nil
  | cons m t q ih => exact .cons _ _ ih
section
variable {PR : Program} {w : World} {A : Around} {env : Env} {h : Heap}
-- a comprehension whose elements change something, into a name of its own; J: what holds between the turns
theorem DsCompJ {elt target iter : Expr} {ifs : List Expr} {scope : Scope} {pos spos py : Pos} {y : Str} {cl : List (Str × Addr)} {rest : List Stmt} {P0 : Value → Heap → Prop} {R : Flow → Heap → Prop} (d : Do PR w A (eval iter env) h P0)
    (hclos : closureFor scope env = pure cl) (hcell : ∀ y ∈ scope.names, y.2 ≠ .cell) (hkind : scope.kind = .function) (hnames : ∀ y ∈ scope.names, y.2 = .local → scope.names.lookup y.1 = some .local)
    (k : ∀ u h1, P0 u h1 → X6 (fun (n : Nat) (old : List Addr) (P : Nat → Value → Heap → Prop) (lo : Nat → List (Str × D)) (J : List Addr → Nat → List Value → Heap → Prop) (l : List (Str × D)) => C8 (Iters PR w A target u h1 h1 n old P) (n ≤ sizeLine) ((∀ a ∈ old, ∃ o, h1.get? a = some o)) ((∃ o, h1.get? env.locals = some o)) ((∀ X i ys g g', J X i ys g → Off X g g' → J X i ys g')) ((∀ X g, (∀ a ∈ X, h1.get? a = none) → h1.StaysIn g → J X 0 [] g)) ((∀ C i v g m, i < n → P i v g → g.Ns C m → Do PR w A (assign target (compEnvC scope cl C env) v) g fun _ g' => Lo g' C (lo i) ∧ ∀ b o, b ≠ C → g.get? b = some o → g'.get? b = some o)) (C3 ((∀ X C i ys g, i < n → C ∈ X → (∀ a ∈ X, h1.get? a = none) → (∀ a ∈ X, ∃ o, g.get? a = some o) → J X i ys g → Lo g C (lo i) →
        Do PR w A (testsOf ifs (compEnvC scope cl C env)) g fun ok g₁ => KeepX (X ++ old) g g₁ ∧ (ok = true → Do PR w A (eval elt (compEnvC scope cl C env)) g₁ fun y g₂ => KeepX (X ++ old) g₁ g₂ ∧ J X (i + 1) (ys ++ [y]) g₂) ∧ (ok = false → J X (i + 1) ys g₁))) ((∀ X ys g, J X n ys g → Lo g env.locals l)) (∀ X C D g ys h2, h1.get? D = none → h1.get? C = none → D ≠ env.locals → C ≠ env.locals → J X n ys g → (∀ b o, b ≠ env.locals → b ≠ C → g.get? b = some o → h2.get? b = some o) → h2.IsList D ys.toArray → Lo h2 env.locals ((y, .ref D) :: l) → Do PR w A (execs rest env) h2 R))))
    (hsw : swapsWith (.ListComp elt [⟨target, iter, ifs, 0⟩] scope pos) (some (.Name y py)) spos.line env = pure true := by rfl)
    (hs : ∀ x, foldedSetIterable iter env x = pure x := by intro _; rfl) (hk : env.scope.kind = .function := by rfl) (hy : env.kindOf y = some .local := by rfl) :
    Do PR w A (execs (.Assign [.Name y py] (.ListComp elt [⟨target, iter, ifs, 0⟩] scope pos) spos :: rest) env) h R := fun s Q E e q => by
  refine wpAny_execs_cons ?_
  rw [exec_Assign_Name_used _ _ _ _ hsw]
  refine wpAny_bind (wpAny_standAt (wpAny_bind ?_))
  show wpAny _ A (do let _ ← comprehension (.ListComp elt [⟨target, iter, ifs, 0⟩] scope pos) scope env _ (newList []) false (eval iter env) (some (assign (.Name y py) env))) _ _ s
  refine wpAny_bind (wpAny_mono (wpAny_comprehension_free (use := some (assign (.Name y py) env)) (Q := fun _ s' => wpAny (model PR w) A (execs rest env) Q E s') rfl hs hclos hkind hnames
    (d s _ E e fun u h1 tk p => ?_)) (fun _ s' hq => wpAny_pure (wpAny_pure hq)) fun _ _ e => e)
  obtain ⟨n, old, P, lo, J, l, it, sz, hold, hL, stab, start, asg, turn, hlo, fin⟩ := k u h1 p
  refine comp_core J it sz hcell hkind hold stab start asg turn rfl ?_
  intro X D C g ys m tk hC hD hCD D0 C0 hn hl hJ hyl
  have hCL : C ≠ env.locals := fun q => by
    obtain ⟨o, e⟩ := hL
    exact no_at (Eq.symm q) C0 e
  have hDL : D ≠ env.locals := fun q => by
    obtain ⟨o, e⟩ := hL
    exact no_at (Eq.symm q) D0 e
  obtain ⟨m1, n1, q1⟩ := hlo X ys g hJ
  show wpAny _ A (assign (.Name y py) env (.ref D)) _ _ _
  refine wpAny_assign_Name (wpAny_storeName_local hy n1 (fun h₂ hn₂ hs₂ => ?_) (by rw [hk]; rfl))
  refine ⟨m, hn.sameBut hs₂ hCL, fun h'' hs'' => ?_⟩
  have lo2 : Lo h'' env.locals ((y, .ref D) :: l) := (Lo.put (d := .ref D) hn₂ q1 rfl).at fun o e => hs''.extBut _ o (Ne.symm hCL) e
  have D2 : h''.IsList D ys.toArray := let ⟨o, e, r⟩ := hl; ⟨o, hs''.extBut _ o (Ne.symm hCD) (hs₂.extBut _ o hDL e), r⟩
  exact fin X C D g ys h'' D0 C0 hDL hCL hJ (fun b o h1 h2 e => hs''.extBut b o h2 (hs₂.extBut b o h1 e)) D2 lo2 _ Q E rfl fun v h' tk r => q v h' tk r
-- two names at once
theorem DsNames2 {x y : Str} {px py tp pos : Pos} {kk : Nat} {value : Expr} {rest : List Stmt} {P : Value → Heap → Prop} {R : Flow → Heap → Prop} (hh : A.handled = none) (d : Do PR w A (eval value env) h P)
    (k : ∀ v h1, P v h1 → X6 (fun T v1 v2 d1 d2 l => C6 (v = .ref T) (h1.IsTuple T #[v1, v2]) (D.Is d1 v1) (D.Is d2 v2) (Lo h1 env.locals l) (∀ h2, Lo h2 env.locals ((y, d2) :: (x, d1) :: l) → But env.locals h1 h2 → Do PR w A (execs rest env) h2 R)))
    (hs : swapsWithSole [.Tuple [.Name x px, .Name y py] kk tp] value pos.line env = pure false := by rfl) (hw : swappedStores [.Tuple [.Name x px, .Name y py] kk tp] value env = pure none := by rfl)
    (hx : env.kindOf x = some .local := by rfl) (hy : env.kindOf y = some .local := by rfl) (hk : env.scope.kind = .function := by rfl) :
    Do PR w A (execs (.Assign [.Tuple [.Name x px, .Name y py] kk tp] value pos :: rest) env) h R := fun s Q E e q => by
  refine wpAny_execs_cons (Assign_Tuple (d s _ E e fun v h1 tk p => ?_) hs hw)
  obtain ⟨T, v1, v2, d1, d2, l, rfl, hT, i1, i2, ⟨m, hn, hq⟩, k⟩ := k v h1 p
  refine kcp_assign hh hT hx hy (by rw [hk]; rfl) hn fun h2 tk2 hn2 hk2 => ?_
  have lo : Lo h2 env.locals ((y, d2) :: (x, d1) :: l) := ⟨_, hn2, Holds.put (Holds.put hq i1) i2⟩
  exact k h2 lo (fun b o hb e => hk2 b o hb e) _ Q E rfl fun v h' tk r => q v h' tk r
-- four names at once
theorem DsNames4 {x1 x2 x3 x4 : Str} {p1 p2 p3 p4 tp pos : Pos} {kk : Nat} {value : Expr} {rest : List Stmt} {P : Value → Heap → Prop} {R : Flow → Heap → Prop} (hh : A.handled = none) (d : Do PR w A (eval value env) h P)
    (k : ∀ v h1, P v h1 → X8 (fun T v1 v2 v3 v4 d1 d2 d3 => X2 (fun d4 l => C8 (v = .ref T) (h1.IsTuple T #[v1, v2, v3, v4]) (D.Is d1 v1) (D.Is d2 v2) (D.Is d3 v3) (D.Is d4 v4) (Lo h1 env.locals l) (∀ h2, Lo h2 env.locals ((x4, d4) :: (x3, d3) :: (x2, d2) :: (x1, d1) :: l) → But env.locals h1 h2 → Do PR w A (execs rest env) h2 R))))
    (hs : swapsWithSole [.Tuple [.Name x1 p1, .Name x2 p2, .Name x3 p3, .Name x4 p4] kk tp] value pos.line env = pure false := by rfl) (hw : swappedStores [.Tuple [.Name x1 p1, .Name x2 p2, .Name x3 p3, .Name x4 p4] kk tp] value env = pure none := by rfl)
    (h1 : env.kindOf x1 = some .local := by rfl) (h2 : env.kindOf x2 = some .local := by rfl) (h3 : env.kindOf x3 = some .local := by rfl) (h4 : env.kindOf x4 = some .local := by rfl) (hk : env.scope.kind = .function := by rfl) :
    Do PR w A (execs (.Assign [.Tuple [.Name x1 p1, .Name x2 p2, .Name x3 p3, .Name x4 p4] kk tp] value pos :: rest) env) h R := fun s Q E e q => by
  refine wpAny_execs_cons (Assign_Tuple (d s _ E e fun v g1 tk p => ?_) hs hw)
  obtain ⟨T, v1, v2, v3, v4, d1, d2, d3, d4, l, rfl, hT, i1, i2, i3, i4, lo, k⟩ := k v g1 p
  refine wpAny_assign_Tuple hh hT rfl rfl fun g2 e2 => ?_
  have up : ∀ c o, g1.get? c = some o → g2.get? c = some o := fun c o e => e2 c o (Nat.ne_of_lt (Heap.lt_size e)) e
  show wpAny _ _ (assignInOrder [assign (.Name x1 p1) env, assign (.Name x2 p2) env, assign (.Name x3 p3) env, assign (.Name x4 p4) env] [v1, v2, v3, v4]) _ _ _
  have lo2 := lo.keeps up
  refine assignInOrder_cons (assign_Name (DoStore (PR := PR) (w := w) (A := A) lo2.bd i1 hk h1 _ _ E rfl fun _ g3 tk3 q3 => ?_))
  refine assignInOrder_cons (assign_Name (DoStore (PR := PR) (w := w) (A := A) q3.1.lo.bd i2 hk h2 _ _ E rfl fun _ g4 tk4 q4 => ?_))
  refine assignInOrder_cons (assign_Name (DoStore (PR := PR) (w := w) (A := A) q4.1.lo.bd i3 hk h3 _ _ E rfl fun _ g5 tk5 q5 => ?_))
  refine assignInOrder_cons (assign_Name (DoStore (PR := PR) (w := w) (A := A) q5.1.lo.bd i4 hk h4 _ _ E rfl fun _ g6 tk6 q6 => ?_))
  refine assignInOrder_nil ?_
  exact k g6 q6.1.lo (fun b o hb e => SameBut.but q6.2 _ _ hb (SameBut.but q5.2 _ _ hb (SameBut.but q4.2 _ _ hb (SameBut.but q3.2 _ _ hb (up _ _ e))))) _ Q E rfl fun v h' tk r => q v h' tk r
end
end Mine
end

-- Draw2
section
open PySem PySem.W PySem.Calls PyProof.Rows PySem.Spec PySem.SeqAt
set_option tactic.hygienic false
namespace Mine
section
variable {PR : Program} {w : World} {A : Around} {env : Env} {h : Heap} {K : Frag}
-- range(x), where x may change something
theorem DoRangeG {x : Expr} {np pos : Pos} {P R : Value → Heap → Prop} (B : Ok K h) (e : nsIn K mainGlobals "range" = some .none) (d : Do PR w A (eval x env) h P) (k : ∀ v h1, P v h1 → X2 (fun n t => C3 (v = .int n t) (Ok K h1) (∀ r h2 t u v, h1.StaysIn h2 → h1.get? r = none → IsRange h2 r 0 n 1 t u v → R (.ref r) h2)))
    (hg : env.globals = mainGlobals := by rfl) (hb : env.builtins = builtinsNs := by rfl) (hk : env.scope.kind = .function := by rfl) (hx : env.kindOf "range" = some .globalImplicit := by rfl)
    (he : starEach [x] env = (false, eval x env) :: starEach [] env := by rfl) : Do PR w A (eval (.Call (.Name "range" np) [x] [] pos) env) h R :=
  Do.callName (Do.builtin B e (v := .type "range") (by boot_fast) (by decide) hg hb hk hx) fun u h1 p => by
    revert u h1 p; refine i2 ?_
    refine DoCallWith (K := K) (P := fun vs h2 => ∃ v, vs = [v] ∧ P v h2) Callable.type (Args.cons (he := he) d fun v h2 p => Args.nil ⟨v, rfl, p⟩) (fun vs h2 p => ?_) (he := he)
    obtain ⟨v, rfl, p⟩ := p
    obtain ⟨n, t, rfl, B2, k⟩ := k v h2 p
    refine ⟨B2, fun s Q E e q => ?_⟩
    subst e
    exact call_range_1 (q _ _ _ (k _ _ _ _ _ push_stays (fresh_size (Nat.le_refl _)) (Heap.get?_push_size _ rfl)))
end
theorem Lo.sub {h : Heap} {L : Addr} {l l' : List (Str × D)} (x : Lo h L l) (k : ∀ y d, l'.lookup y = some d → l.lookup y = some d) : Lo h L l' := let ⟨m, n, q⟩ := x; ⟨m, n, fun y d e => q y d (k y d e)⟩
section
variable {w : World} {N : Nat} {Z Y : List Addr} {he h h' : Heap} {a : Ad} {gs ds rs : List Addr} {x y : Int} {grs rows : List Row} {here : Option Nat} {digits : List Int} {taken : Int}
-- one thing more is hidden
theorem Rm.hide (M : Rm w N Z Y he h a gs ds rs x y grs rows here digits taken) {I : Addr} (k : h.StaysIn h') (n : h.get? I = none) (hi : 254 ≤ I) (inn : ∃ o, h'.get? I = some o) : Rm w N Z (Y ++ [I]) he h' a gs ds rs x y grs rows here digits taken := by
  refine ⟨M.ok.keeps k, M.wd.keeps fun b o e => hideAll_get _ (k _ _ (of_hideAll _ e)) fun q => ?_, M.up.trans (UpZ.keeps k), fun b hb => ?_, fun b hb => ?_, M.nt⟩
  · have hn := hide_no e
    rcases List.mem_append.mp q with q | q
    · rcases List.mem_append.mp q with q | q
      · exact hn (List.mem_append_left _ q)
      · rw [List.mem_singleton.mp q] at e
        have := of_hideAll _ e
        exact no_one n this
    · exact hn (List.mem_append_right _ q)
  · have old : b ∈ Y ++ Z → ∃ o, h'.get? b = some o := fun q => let ⟨o, e⟩ := M.is b q; ⟨o, k _ _ e⟩
    rcases List.mem_append.mp hb with q | q
    · rcases List.mem_append.mp q with q | q
      · exact old (List.mem_append_left _ q)
      · rw [List.mem_singleton.mp q]; exact inn
    · exact old (List.mem_append_right _ q)
  · rcases List.mem_append.mp hb with q | q
    · exact M.hi _ q
    · rw [List.mem_singleton.mp q]; exact hi
end
section
variable {w : World} {A : Around} {env : Env} {h : Heap}
-- Scheduler(Choices(x))
theorem DoBirth {x : Expr} {np pos np2 pos2 : Pos} {DG : Addr} (B : Ok (KP w.params) h) (ar : Ar A 2) (dx : Pe PR w A x env h (.ref DG)) (hg : env.globals = mainGlobals := by rfl) (hk : env.scope.kind = .function := by rfl) (hx : env.kindOf "Scheduler" = some .globalImplicit := by rfl) (hx2 : env.kindOf "Choices" = some .globalImplicit := by rfl)
    (he : starEach [.Call (.Name "Choices" np2) [x] [] pos2] env = (false, eval (.Call (.Name "Choices" np2) [x] [] pos2) env) :: starEach [] env := by rfl) (he2 : starEach [x] env = (false, eval x env) :: starEach [] env := by rfl) :
    Do PR w A (eval (.Call (.Name "Scheduler" np) [.Call (.Name "Choices" np2) [x] [] pos2] [] pos) env) h fun v h6 => X8 (fun S dS C dC AL t1 t2 t3 => X5 (fun n t4 t5 t6 m => C8 (v = .ref S) (h.StaysIn h6) (Inst h6 S 157 dS (scEs w.params t1 t2 t3 (.ref C) (.ref AL) .none) n) (Inst h6 C 185 dC (chEs w.params t4 t5 (.ref DG) (.int 0 t6)) m) (h6.PlainList AL #[]) (254 ≤ dS) (254 ≤ dC) (C6 (254 ≤ AL) (h.get? S = none) (h.get? dS = none) (h.get? C = none) (h.get? dC = none) (h.get? AL = none)))) :=
  Do.callName (Pe.glob (d := .ref 157) B gl_Scheduler rfl hg hk hx) fun u h6 p => by
    obtain ⟨rfl, rfl⟩ := p
    refine DoCallWith (K := KP w.params) (Callable.ofK ke_f.2.2.2.2.2.2.2.2.2.1) (P := fun vs h7 => X6 (fun C dC t4 t5 t6 m => C6 (vs = [.ref C]) (h6.StaysIn h7) (Inst h7 C 185 dC (chEs w.params t4 t5 (.ref DG) (.int 0 t6)) m) (254 ≤ dC) (h6.get? C = none) (h6.get? dC = none)))
      (Args.cons (he := he) (P := fun v h7 => X6 (fun C dC t4 t5 t6 m => C6 (v = .ref C) (h6.StaysIn h7) (Inst h7 C 185 dC (chEs w.params t4 t5 (.ref DG) (.int 0 t6)) m) (254 ≤ dC) (h6.get? C = none) (h6.get? dC = none))) (Do.callName (Pe.glob (d := .ref 185) B gl_Choices rfl hg hk hx2) fun u h7 p => ?_) fun v h7 p => Args.nil ?_) (fun vs h7 p => ?_) (he := he)
    · revert u h7 p; refine i2 ?_
      refine DoCallWith (K := KP w.params) (Callable.ofK ke_f.2.2.2.2.2.2.2.2.2.2.1) (Args.plain1 (he := he2) dx Args.plain0) (fun vs h8 p => ?_) (he := he2)
      revert h8 p; refine i1 fun q => ?_
      obtain ⟨v, rfl, rfl⟩ := q.one
      refine ⟨B, (make_choices B ar).mono ?_⟩
      rintro v h9 ⟨k9, x, dx, t1, t2, tk, n, rfl, I, hd, nx, nd⟩
      exact ⟨x, dx, t1, t2, tk, n, rfl, k9, I, Nat.le_trans B.size hd, nx, nd⟩
    · obtain ⟨C, dC, t4, t5, t6, m, rfl, k, I, hd, n1, n2⟩ := p
      exact ⟨C, dC, t4, t5, t6, m, rfl, k, I, hd, n1, n2⟩
    · obtain ⟨C, dC, t4, t5, t6, m, rfl, k, I, hd, n1, n2⟩ := p
      have B7 := B.keeps k
      refine ⟨B7, (make_scheduler (C := C) B7 ar).mono ?_⟩
      rintro v h9 ⟨k9, S, dS, AL, t1, t2, t3, n, rfl, IS, lA, z1, z2, n3, n4, n5⟩
      exact ⟨S, dS, C, dC, AL, t1, t2, t3, n, t4, t5, t6, m, rfl, fun b o e => k9 _ _ (k _ _ e), IS, I.keeps k9, lA, Nat.le_trans B7.size z1, hd, z2, fresh_of k n3, fresh_of k n4, n1, n2, fresh_of k n5⟩
end
theorem TabS.keep {h h' : Heap} (T : TabS h) (k : ∀ b o vs, h.get? b = some o → o.data = .fields vs → h'.get? b = some o) : TabS h' := by
  obtain ⟨ps, e, t, c⟩ := T
  refine ⟨ps, k _ _ _ e rfl, t, fun pos cv q => ?_⟩
  obtain ⟨a, o, vs, u, rfl, e1, d1, r⟩ := c pos cv q
  exact ⟨a, o, vs, u, rfl, k _ _ _ e1 d1, d1, r⟩
-- a value into a name, as an assignment's target
theorem DoName {PR : Program} {w : World} {A : Around} {env : Env} {h : Heap} {x : Str} {px : Pos} {v : Value} {d : D} {l : List (Str × D)} (lo : Lo h env.locals l) (hd : d.Is v) (hk : env.scope.kind = .function := by rfl) (hl : env.kindOf x = some .local := by rfl) :
    Do PR w A (assign (.Name x px) env v) h fun _ h' => Lo h' env.locals ((x, d) :: l) ∧ But env.locals h h' := fun s Q E e q =>
  assign_Name (DoStore (PR := PR) (w := w) (A := A) lo.bd hd hk hl _ _ E e fun _ h' tk r => q () h' tk ⟨r.1.lo, SameBut.but r.2⟩)
-- where one is chosen
noncomputable def heD (gs : List Addr) : Option Nat → D
  | .none => .none
  | .some j => match gs[j]? with | some g => .ref g | .none => .none
theorem heD_is {gs : List Addr} {o : Option Nat} : (heD gs o).Is (hereVal gs o) := by
  cases o with
  | none => rfl
  | some j =>
    simp only [heD, hereVal]
    cases hq : gs[j]? with
    | none => rfl
    | some g => rfl
noncomputable def nuD : Option Nat → D
  | .none => .none
  | .some j => .int j
theorem AnIs.nu {v : Value} {o : Option Nat} (x : AnIs v (o.map Int.ofNat)) : (nuD o).Is v := by cases o <;> exact x
end Mine
end

-- Draw3
section
open PySem PySem.W PySem.Calls PyProof.Rows PySem.Spec PySem.SeqAt
set_option tactic.hygienic false
namespace Mine
noncomputable def Has (l : List (Str × D)) : List (Str × D) → Prop
  | [] => True
  | p :: r => l.lookup p.1 = some p.2 ∧ Has l r
theorem Has.get {l l' : List (Str × D)} (x : Has l l') (y : Str) (d : D) : l'.lookup y = some d → l.lookup y = some d := by
  induction l' with
  | nil => exact fun e => nomatch e
  | cons p r ih =>
    rw [List.lookup_cons]
    cases hb : y == p.1 with
    | true => intro e; cases e; rw [beq_iff_eq.mp hb]; exact x.1
    | false => exact ih x.2
theorem Lo.of {h : Heap} {L : Addr} {l l' : List (Str × D)} (x : Lo h L l) (k : Has l l') : Lo h L l' := x.sub k.get
theorem AreD.five {d1 d2 d3 d4 d5 : D} {vs : List Value} (x : AreD [d1, d2, d3, d4, d5] vs) : X5 (fun v1 v2 v3 v4 v5 => C6 (vs = [v1, v2, v3, v4, v5]) (d1.Is v1) (d2.Is v2) (d3.Is v3) (d4.Is v4) (d5.Is v5)) := by
  cases x with
  | cons h1 q =>
    cases q with
    | cons h2 q => obtain ⟨v3, v4, v5, rfl, h3, h4, h5⟩ := q.three; exact ⟨_, _, _, _, _, rfl, h1, h2, h3, h4, h5⟩
theorem AreD.four {d1 d2 d3 d4 : D} {vs : List Value} (x : AreD [d1, d2, d3, d4] vs) : X4 (fun v1 v2 v3 v4 => C5 (vs = [v1, v2, v3, v4]) (d1.Is v1) (d2.Is v2) (d3.Is v3) (d4.Is v4)) := by
  cases x with
  | cons h1 q => obtain ⟨v3, v4, v5, rfl, h3, h4, h5⟩ := q.three; exact ⟨_, _, _, _, rfl, h1, h3, h4, h5⟩
-- the loop of _law_drawn_right, ahead of turn i
structure LpAt (w : World) (N : Nat) (Z : List Addr) (L : Addr) (he : Heap) (a : Ad) (ns : List Int) (I : Addr) (i : Nat) (h : Heap) (gs ds rs : List Addr) (x y : Int) (rows : List Row) (hr tk : Nat) : Prop where
  m : Rm w N Z [L, L + 1, I] he h a gs ds rs x y rows rows (some hr) ns (tk : Nat)
  fine : Fine rows
  le : tk ≤ i
  lo : Lo h L [("taken", .int tk), ("here", .int hr), ("rows", .ref a.R), ("scheduler", .ref a.S), ("digits", .ref a.DG)]
  ca : CellAt h (L + 1) (.ref a.src)
noncomputable def Lp (w : World) (N : Nat) (Z : List Addr) (L : Addr) (he : Heap) (a : Ad) (ns : List Int) (I : Addr) (i : Nat) (h : Heap) : Prop := (I ∉ Z ∧ I ≠ L ∧ I ≠ L + 1) ∧ X8 (fun gs ds rs x y rows hr tk => LpAt w N Z L he a ns I i h gs ds rs x y rows hr tk)
theorem nuD_eq {o : Option Nat} : nuD o = anDd (o.map Int.ofNat) := by cases o <;> rfl
theorem Cmp.nuNe {PR : Program} {w : World} {A : Around} {h : Heap} (o : Option Nat) : Cmp PR w A .NotEq (nuD o) (nuD o) h false := by rw [nuD_eq]; exact Cmp.anNe _
theorem takenOf_le {t m : Nat} : takenOf t m ≤ t + 1 := by unfold takenOf; split <;> omega
theorem UpZ.one {N : Nat} {Z : List Addr} {I : Addr} {h h' : Heap} (x : UpZ N Z h h') (hI : I ∈ Z) : UpZ N [I] h h' := x.mono fun b hb => by revert b hb; refine Mine.all1 ?_; exact hI
end Mine
end

-- Drawn
section
open PySem PySem.W PySem.Calls PyProof.Rows PySem.Spec PySem.SeqAt
set_option tactic.hygienic false
namespace Mine
-- all that stood stands but the source and the frame; the source is one
structure Drew (h1 : Heap) (L src : Addr) (h : Heap) : Prop where
  k : ∀ b o, b ≠ src → b ≠ L → h1.get? b = some o → h.get? b = some o
  s : ∃ x y, Src h src x y
section
variable {h1 h h' : Heap} {L src c : Addr}
theorem Drew.keeps (d : Drew h1 L src h) (k : h.StaysIn h') : Drew h1 L src h' := ⟨fun b o e1 e2 e => k _ _ (d.k b o e1 e2 e), let ⟨x, y, S⟩ := d.s; ⟨x, y, Src.off (X := []) S (Off.nil k) fun q => nomatch q⟩⟩
theorem Drew.own (d : Drew h1 L src h) (k : But L h h') (hs : src ≠ L) : Drew h1 L src h' := ⟨fun b o e1 e2 e => k b o e2 (d.k b o e1 e2 e), let ⟨x, y, S⟩ := d.s; ⟨x, y, S.off (X := [L]) (Off.one k) (by simpa using hs)⟩⟩
theorem Drew.ok {K : Frag} (d : Drew h1 L src h) (B : Ok K h1) (hL : 254 ≤ L) : Ok K h := B.low fun b o hb e => d.k b o (by obtain ⟨_, _, S⟩ := d.s; exact low_ne hb S.hi) (low_ne hb hL) e
end
-- the things of the law, new-born; W: what is hidden
structure Born (P : Params) (W : List Addr) (h5 h : Heap) (src DG : Addr) (ns : List Int) (a : Ad) (rn : Addr) : Prop where
  st : h5.StaysIn h
  es : a.src = src
  eg : a.DG = DG
  sc : Sched P (hideAll h W) a.S a.dS a.C a.dC a.DG a.AL [] [] [] none ns 0
  rw : RowsAt (hideAll h W) a.R [rn] [newRow]
  nd : (a.src :: a.AL :: a.DG :: a.R :: [rn]).Nodup
  hi : 254 ≤ a.dS ∧ 254 ≤ a.dC ∧ 254 ≤ a.AL ∧ 254 ≤ a.R ∧ 254 ≤ rn
theorem Born.keeps {P : Params} {W : List Addr} {h5 h h' : Heap} {src DG : Addr} {ns : List Int} {a : Ad} {rn : Addr} (x : Born P W h5 h src DG ns a rn) (k : h.StaysIn h') : Born P W h5 h' src DG ns a rn :=
  ⟨fun b o e => k _ _ (x.st _ _ e), x.es, x.eg, x.sc.keeps (stay_hide k), x.rw.keeps (stay_hide k), x.nd, x.hi⟩
section
variable {w : World} {A : Around} {h : Heap} {N : Nat} {Z : List Addr} {l : List Env} {src : Addr} {x y : Int}
theorem drawn_spec (B : Ok (KP w.params) h) (lw : Lw A 12) (hfr : A.frames = some l) (F : FOk l h) (zz : ∀ b ∈ zs l, b ∈ Z) (zin : ∀ b ∈ Z, ∃ o, h.get? b = some o) (nt : 229 ∉ Z) (hN : 254 ≤ N) (fN : ∀ b ∈ zs l, N ≤ b) (hNs : N ≤ h.objs.size) (S : Src (hideAll h Z) src x y) (TB : TabS (hideAll h Z)) :
    Do PR w A (call (.ref 239) [.ref src] []) h fun v h' => v = .bool true ∧ Ok (KP w.params) h' ∧ UpZ N Z h h' ∧ ∃ ps, h'.get? 229 = some (tabObj ps) := by
  have B0 := B.size
  refine' DoDefX (args := ⟨[.ref src], []⟩) (binds := [("source", .ref src)]) (l := []) B ?ho ?hcd lw.ar.room ?hb ?hkind ?hz ?c2 ?c3 ?c4 ?go
  case ho => (first | (with_reducible apply Mine.kp_look; (focus k_is); decide) | (with_reducible apply Mine.kp_ns; (focus k_is); decide) | kernel_rfl)
  case hcd => (first | (with_reducible apply Mine.kp_look; (focus k_is); decide) | (with_reducible apply Mine.kp_ns; (focus k_is); decide) | kernel_rfl)
  case hb => exact fun _ _ => BindsTo.of_eq rfl
  case hkind => exact fun n => kinds_of ⟨.inr ⟨rfl, rfl⟩, trivial⟩
  case hz => exact fun L => Holds.nil
  case c2 => rfl
  case c3 => rfl
  case c4 => rfl
  case go =>
    intro L h1 b' X hL
    refine Do.post fun RR hRR => ?_
    have b := b'
    have nw : ∀ c, L ≤ c → h.get? c = none := fun c hc => fresh_size (hL ▸ hc)
    have c1 : h1.IsCell (L + 1) (some (.ref src)) := X.cell "source" (L + 1) rfl
    have lw1 : ∀ env, Lw (A.deeper env) 11 := fun env => lw.deeper
    have hL254 : 254 ≤ L := hL ▸ B0
    have B1 := B.keeps b.st
    have S1 : Src h1 src x y := Src.off (X := []) (Src.off (X := []) S (Off.nil hideAll_stays) (fun q => nomatch q)) (Off.nil b.st) fun q => nomatch q
    have sL : src ≠ L := by
      obtain ⟨ta, tb, o, e, _⟩ := S.l
      exact b.ne (of_hideAll _ e)
    have sC : L + 1 ≠ src := by
      obtain ⟨ta, tb, o, e, _⟩ := S.l
      intro q
      have := nw (L + 1) (Nat.le_succ L)
      rw [q, of_hideAll _ e] at this; cases this
    have cL : L + 1 ≠ L := Nat.succ_ne_self L
    have ca : CellAt h1 (L + 1) (.ref src) := ⟨_, c1, rfl⟩
    have exL : ∀ {h : Heap} {l : List (Str × D)}, Lo h L l → ∃ o, h.get? L = some o := fun ⟨m, ⟨o, es, ep, e, _⟩, _⟩ => ⟨o, e⟩
    -- digits
    refine DsCompJ (P0 := fun u h3 => X5 (fun r n t u' v => C6 (u = .ref r) (IsRange h3 r 0 (n : Nat) 1 t u' v) (n ≤ 5) (r ≠ src) (Drew h1 L src h3) (Lo h3 L []))) (DoRangeG B1 gl_range (DoTake B1 ((lw1 _).ar.less (m := 1)).dp S1 (by decide) (by decide) (Pe.cell ca rfl) Pe.int) fun v h2 p => ?_) (by rfl) (by decide) rfl (by decide) fun u h3 p => ?_
    · obtain ⟨r, t, x', y', rfl, r0, r5, S2, k2⟩ := p
      obtain ⟨n, rfl⟩ := Int.eq_ofNat_of_zero_le r0
      have D2 : Drew h1 L src h2 := ⟨fun b o e1 _ e => k2 b o e1 e, x', y', S2⟩
      refine ⟨n, t, rfl, D2.ok B1 hL254, fun r h3 t' u' v' k3 nr hr => ⟨r, n, t', u', v', rfl, hr, by omega, fun q => ?_, D2.keeps k3, (b.lo.at fun o e => k2 _ o (Ne.symm sL) e).keeps k3⟩⟩
      obtain ⟨ta, tb, o, e, _⟩ := S2.l
      exact no_at (Eq.symm q) nr e
    · obtain ⟨r, n, t, u', v, rfl, hr, hn, hrs, D3, lo3⟩ := p
      have B3 := D3.ok B1 hL254
      have ca3 : CellAt h3 (L + 1) (.ref src) := ca.at fun o e => D3.k _ o sC cL e
      obtain ⟨x3, y3, S3⟩ := D3.s
      have ex3 : ∃ o, h3.get? src = some o := let ⟨ta, tb, o, e, _⟩ := S3.l; ⟨o, e⟩
      have srcX : ∀ {X : List Addr}, (∀ a ∈ X, h3.get? a = none) → src ∉ X := fun nX q => by
        obtain ⟨o, e⟩ := ex3
        exact no_one (nX _ q) e
      refine ⟨n, [], _, fun i => [("turn", .int (0 + (i : Int)))], fun X i ys g => (∀ a ∈ X, h3.get? a = none) ∧ But src h3 g ∧ (∃ x y, Src g src x y) ∧ ∃ ns, IntsAre ys ns ∧ ns.length = i, [],
        iters_range (lw1 _).hh hr (by with_reducible first | exact Int.natCast_nonneg _ | exact z63 (by assumption) (by assumption) | exact z65 (by assumption) (by assumption) | exact zn (by assumption) | exact le5 (by assumption) (by assumption) | exact Int.ofNat_lt.mpr (by assumption) | exact Nat.le_of_lt (by assumption) | exact Nat.le_trans (by assumption) (by decide) | omega), by unfold sizeLine; omega, by simp, exL lo3, ?_, ?_, ?_, ?_, ?_, ?_⟩
      · rintro X i ys g g' ⟨nX, k, ⟨x', y', S'⟩, q⟩ off
        refine ⟨nX, fun b o hb e => off b o (k b o hb e) fun q => ?_, ⟨x', y', S'.off off (srcX nX)⟩, q⟩
        exact no_one (nX b q) e
      · intro X g nX k
        exact ⟨nX, fun b o _ e => k b o e, ⟨x3, y3, Src.off (X := []) S3 (Off.nil k) fun q => nomatch q⟩, [], .nil, rfl⟩
      · intro C i v g m hi hv hn
        exact asg_name rfl rfl hv hn
      · rintro X C i ys g hi hC nX exX ⟨_, k, ⟨x', y', S'⟩, ns, hI, hl⟩ loC
        refine Dtests0 ⟨KeepX.ofStays fun _ _ e => e, fun _ => ?_, fun hf => by cases hf⟩
        have Bg : Ok (KP w.params) g := B3.but k S3.hi
        refine Do.mono (DoTake Bg ((lw1 _).ar.less (m := 1)).dp S' (top := 7) (by decide) (by decide) (Pe.cell (ca3.at fun o e => k _ o sC e) rfl) Pe.int) ?_
        rintro v g2 ⟨r2, t2, x2, y2, rfl, _, _, S2, k2⟩
        refine ⟨fun a ha o e => k2 a o (fun q => ?_) e, nX, fun b o hb e => k2 b o hb (k b o hb e), ⟨x2, y2, S2⟩, ns ++ [r2], ints_snoc hI, by simp [hl]⟩
        subst q
        exact srcX nX (by simpa using ha)
      · rintro X ys g ⟨_, k, _⟩
        exact lo3.at fun o e => k _ o (Ne.symm sL) e
      · rintro X C DG g ys h5 nD nC hDL hCL ⟨nX, k, ⟨x', y', S'⟩, ns, hI, hnl⟩ k5 lD lo5
        replace k5 : ∀ b o, b ≠ L → b ≠ C → g.get? b = some o → h5.get? b = some o := k5
        have nCs : C ≠ src := fun q => by
          obtain ⟨o, e⟩ := ex3
          exact no_at (Eq.symm q) nC e
        have D5 : Drew h1 L src h5 := by
          refine ⟨fun b o e1 e2 e => k5 b o e2 (fun q => ?_) (k b o e1 (D3.k b o e1 e2 e)), x', y', S'.off (X := [L, C]) (fun b o e hb => k5 b o (fun q => hb (by first | exact List.mem_cons.mpr (.inl q) | exact List.mem_cons_of_mem _ (List.mem_singleton.mpr q) | simp [q])) (fun q => hb (by first | exact List.mem_cons.mpr (.inl q) | exact List.mem_cons_of_mem _ (List.mem_singleton.mpr q) | simp [q])) e) fun q => by
            rcases List.mem_cons.mp q with q | q
            · exact sL q
            · exact nCs (List.mem_singleton.mp q).symm⟩
          have := D3.k b o e1 e2 e
          exact no_at q nC this
        have nD1 : DG ≠ src := fun q => by
          obtain ⟨o, e⟩ := ex3
          exact no_at (Eq.symm q) nD e
        replace hDL : DG ≠ L := hDL
        have lo5' : Lo h5 L [("digits", .ref DG)] := lo5
        clear lo5 nX k S' k5 nC hCL nCs
        have B5 := D5.ok B1 hL254
        have nD1' : h1.get? DG = none := by
          cases q : h1.get? DG with
          | none => rfl
          | some o =>
            have := D3.k DG o nD1 hDL q
            exact no_one nD this
        -- the things of the law
        have outW : ∀ b, h5.get? b = none → b ∉ [L, L + 1] ++ Z := fun b n q => by
          have out : ∀ o, h1.get? b = some o → b ≠ L → False := fun o e hbL => by
            have hs : b ≠ src := fun q => by
              obtain ⟨_, _, S5⟩ := D5.s
              obtain ⟨ta, tb, o, e, _⟩ := S5.l
              rw [q, e] at n; cases n
            rw [D5.k b o hs hbL e] at n; cases n
          rcases List.mem_append.mp q with q | q
          · rcases List.mem_cons.mp q with rfl | q
            · obtain ⟨o, e⟩ := exL lo5'
              exact no_one n e
            · rw [List.mem_singleton.mp q] at n out
              obtain ⟨o, e, _⟩ := c1
              exact out o e cL
          · obtain ⟨o, e⟩ := zin b q
            refine out o (b'.st _ _ e) fun q2 => ?_
            exact no_at q2 (nw L (Nat.le_refl L)) e
        have outD : DG ∉ [L, L + 1] ++ Z := fun q => by
          rcases List.mem_append.mp q with q | q
          · rcases List.mem_cons.mp q with q | q
            · exact hDL q
            · obtain ⟨o, e, _⟩ := c1
              rw [← List.mem_singleton.mp q, nD1'] at e; cases e
          · obtain ⟨o, e⟩ := zin DG q
            rw [b'.st _ _ e] at nD1'; cases nD1'
        have outS : src ∉ [L, L + 1] ++ Z := fun q => by
          rcases List.mem_append.mp q with q | q
          · rcases List.mem_cons.mp q with q | q
            · exact sL q
            · exact sC (List.mem_singleton.mp q).symm
          · obtain ⟨ta, tb, o, e, _⟩ := S.l
            exact hide_no e q
        refine DsNames4 (lw1 _).hh (P := fun v h8 => X6 (fun T a rn i1 i2 n => C3 (v = .ref T) (h8.get? T = some (tupObj #[.ref a.S, .ref a.R, .int 0 i1, .int 0 i2] n)) (Born w.params ([L, L + 1] ++ Z) h5 h8 src DG ns a rn)))
          (DoTuple (P := fun vs h7 => X4 (fun a rn i1 i2 => vs = [.ref a.S, .ref a.R, .int 0 i1, .int 0 i2] ∧ Born w.params ([L, L + 1] ++ Z) h5 h7 src DG ns a rn))
            (Args.cons (DoBirth B5 (lw1 _).ar.less (Pe.loc (d := .ref DG) lo5' rfl)) fun v h6 p => ?_) fun vs h7 p => ?_) fun v h8 p => ?_
        · obtain ⟨S', dS, C, dC, AL, t1, t2, t3, n, t4, t5, t6, m, rfl, k6, IS, IC, lA, z1, z2, z3, n1, n2, n3, n4, n5⟩ := p
          have B6 := B5.keeps k6
          refine Args.cons (P := fun v h7 => X3 (fun R rn ts => C8 (v = .ref R) (h6.StaysIn h7) (h7.PlainList R #[.ref rn]) (h7.IsList rn #[.str "ready" ts, .none, .none]) (h6.get? R = none) (h6.get? rn = none) (R ≠ rn) ((254 ≤ R) ∧ (254 ≤ rn)))) (DoList (P := fun vs h7 => X2 (fun rn ts => C5 (vs = [.ref rn]) (h6.StaysIn h7) (h7.IsList rn #[.str "ready" ts, .none, .none]) (h6.get? rn = none) (254 ≤ rn)))
            (Args.cons (P := fun v h7 => X2 (fun rn ts => C5 (v = .ref rn) (h6.StaysIn h7) (h7.IsList rn #[.str "ready" ts, .none, .none]) (h6.get? rn = none) (254 ≤ rn))) (DoList (Args.plain1 Pe.str (Args.plain1 Pe.none (Args.plain1 Pe.none Args.plain0))) fun vs h7 p => ?_) fun v h7 p => Args.nil ?_) fun vs h7 p => ?_) fun v h7 p => ?_
          · revert h7 p; refine Mine.i1 fun q => ?_
            obtain ⟨u, v, t, rfl, ⟨ts, rfl⟩, rfl, rfl⟩ := q.three
            exact ⟨by show 3 ≤ sizeLine; decide, fun h8 rn k8 nn zz' e8 => ⟨rn, ts, rfl, k8, e8.isList, nn, Nat.le_trans B6.size zz'⟩⟩
          · obtain ⟨rn, ts, rfl, r1, r2, r3, r4⟩ := p
            exact ⟨rn, ts, rfl, r1, r2, r3, r4⟩
          · obtain ⟨rn, ts, rfl, k7, lr, nr, zr⟩ := p
            refine ⟨by show 1 ≤ sizeLine; decide, fun h8 R k8 nR zR e8 => ⟨R, rn, ts, rfl, fun b o e => k8 _ _ (k7 _ _ e), e8, IsList_keeps lr k8, fresh_of k7 nR, nr, fun q => ?_, Nat.le_trans (B6.keeps k7).size zR, zr⟩⟩
            obtain ⟨o, e, _⟩ := lr
            exact no_at (Eq.symm q) nR e
          · obtain ⟨R, rn, ts, rfl, k7, lR, lr, nR, nr, hRr, zR, zr⟩ := p
            have f6 : ∀ {b}, h6.get? b = none → h5.get? b = none := fun n => fresh_of k6 n
            have h57 : h5.StaysIn h7 := fun b o e => k7 _ _ (k6 _ _ e)
            obtain ⟨vs', hvs', hints⟩ : ∃ (vs : List Value), h5.IsList DG vs.toArray ∧ IntsAre vs ns := ⟨ys, lD, hI⟩
            have hAD : AL ≠ DG := fun q => by
              obtain ⟨o, e, _⟩ := lD
              exact no_at (Eq.symm q) n5 e
            have born : Born w.params ([L, L + 1] ++ Z) h5 h7 src DG ns ⟨src, S', dS, C, dC, DG, AL, R⟩ rn := by
              refine ⟨h57, rfl, rfl, ⟨⟨t1, t2, t3, n, hideAll_get _ (k7 _ _ IS.o) (outW _ n1), hideAll_get _ (k7 _ _ IS.d) (outW _ n2)⟩, ⟨t4, t5, t6, m, hideAll_get _ (k7 _ _ IC.o) (outW _ n3), hideAll_get _ (k7 _ _ IC.d) (outW _ n4)⟩, ⟨vs', isList_hide (IsList_keeps hvs' h57) outD, hints⟩, plain_hide (lA.at fun o e => k7 _ _ e) (outW _ n5), rfl, rfl, fun i g d r e => by simp at e, hAD, fun i e => by cases e⟩,
                ⟨plain_hide lR (outW _ (f6 nR)), rfl, fun i a r e1 e2 => ?_, ?_⟩, ?_, z1, z2, z3, zR, zr⟩
              · rcases i with _ | i
                · cases e1; cases e2
                  exact ⟨ts, .none, .none, isList_hide lr (outW _ (f6 nr)), rfl, rfl⟩
                · simp at e1
              · simp [hRr]
              · have hs5 : ∃ o, h5.get? src = some o := by
                  obtain ⟨_, _, S5⟩ := D5.s
                  obtain ⟨ta, tb, o, e, _⟩ := S5.l
                  exact ⟨o, e⟩
                have hd5 : ∃ o, h5.get? DG = some o := let ⟨o, e, _⟩ := hvs'; ⟨o, e⟩
                have hA6 : ∃ o, h6.get? AL = some o := let ⟨n, e⟩ := lA; ⟨_, e⟩
                have ne5 : ∀ {b c : Addr}, (∃ o, h5.get? b = some o) → h5.get? c = none → b ≠ c := fun ⟨o, e⟩ n q => by exact no_at q n e
                have ne6 : ∀ {b c : Addr}, (∃ o, h6.get? b = some o) → h6.get? c = none → b ≠ c := fun ⟨o, e⟩ n q => by exact no_at q n e
                simp only [List.nodup_cons, List.mem_cons, List.not_mem_nil, or_false, not_or, List.nodup_nil, and_true, not_false_eq_true]
                exact ⟨⟨ne5 hs5 n5, Ne.symm nD1, ne5 hs5 (f6 nR), ne5 hs5 (f6 nr)⟩, ⟨Ne.symm (ne5 hd5 n5), ne6 hA6 nR, ne6 hA6 nr⟩, ⟨ne5 hd5 (f6 nR), ne5 hd5 (f6 nr)⟩, hRr⟩
            refine Args.cons Pe.int fun v h8 p => ?_
            revert v h8 p; refine Mine.i2t fun i1 => ?_
            refine Args.cons Pe.int fun v h9 p => Args.nil ?_
            revert v h9 p; refine Mine.i2t fun i2 => ?_
            exact ⟨_, rn, i1, i2, rfl, born⟩
        · obtain ⟨a, rn, i1, i2, rfl, born⟩ := p
          exact ⟨by show 4 ≤ sizeLine; decide, fun h8 T n k8 _ _ eT => ⟨T, a, rn, i1, i2, n, rfl, eT, born.keeps k8⟩⟩
        · obtain ⟨T, a, rn, i1, i2, n, rfl, eT, born⟩ := p
          refine ⟨T, _, _, _, _, .ref a.S, .ref a.R, .int 0, .int 0, [("digits", .ref DG)], rfl, ⟨_, eT, rfl, n, rfl⟩, rfl, rfl, ⟨_, rfl⟩, ⟨_, rfl⟩, lo5'.keeps born.st, fun h9 lo9 k9 => ?_⟩
          replace k9 : But L h8 h9 := k9
          replace lo9 : Lo h9 L [("taken", .int 0), ("here", .int 0), ("rows", .ref a.R), ("scheduler", .ref a.S), ("digits", .ref DG)] := lo9
          have D9 := (D5.keeps born.st).own k9 sL
          have zL : L ∉ Z := fun q => by
            obtain ⟨o, e⟩ := zin L q
            exact no_one (nw L (Nat.le_refl L)) e
          have zC : L + 1 ∉ Z := fun q => by
            obtain ⟨o, e⟩ := zin _ q
            exact no_one (nw (L + 1) (Nat.le_succ L)) e
          have ca9 : CellAt h9 (L + 1) (.ref src) := ca.at fun o e => D9.k _ o sC cL e
          have M9 : Rm w N Z [L, L + 1] h h9 a [] [] [rn] (D9.s.choose) (D9.s.choose_spec.choose) [] [newRow] none ns 0 := by
            have S9 := D9.s.choose_spec.choose_spec
            have inn : ∀ b ∈ [L, L + 1] ++ Z, ∃ o, h9.get? b = some o := fun c hc => by
              rcases List.mem_append.mp hc with q | q
              · rcases List.mem_cons.mp q with rfl | q
                · exact exL lo9
                · rw [List.mem_singleton.mp q]
                  obtain ⟨v, ⟨o, e, hd⟩, _⟩ := ca9
                  exact ⟨o, e⟩
              · obtain ⟨o, e⟩ := zin c q
                exact ⟨o, D9.k c o (fun q2 => outS (q2 ▸ List.mem_append_right _ q)) (fun q2 => zL (q2 ▸ q)) (b'.st _ _ e)⟩
            have hi : ∀ b ∈ [L, L + 1], 254 ≤ b := fun c q => by
              rcases List.mem_cons.mp q with rfl | q
              · exact hL254
              · rw [List.mem_singleton.mp q]; exact Nat.le_succ_of_le hL254
            have k89 : (hideAll h8 ([L, L + 1] ++ Z)).StaysIn (hideAll h9 ([L, L + 1] ++ Z)) := fun c o e => hideAll_get _ (k9 c o (fun q => hide_no e (by rw [q]; simp)) (of_hideAll _ e)) (hide_no e)
            refine ⟨D9.ok B1 hL254, ⟨?_, born.sc.keeps k89, born.rw.keeps k89, born.nd, born.hi.1, born.hi.2.1, born.hi.2.2.1, ?_, ?_, ?_⟩, UpZ.of fun c hc o e => ?_, inn, hi, nt⟩
            · rw [born.es]
              obtain ⟨hi', ⟨ta, tb, l⟩, r1, r2, r3⟩ := S9
              exact ⟨hi', ⟨ta, tb, isList_hide l outS⟩, r1, r2, r3⟩
            · intro c hc
              revert c hc; refine Mine.allc ?_ fun c hc => ?_
              · exact born.hi.2.2.2.1
              · revert c hc; refine Mine.all1 ?_; exact born.hi.2.2.2.2
            · intro c hc; cases hc
            · refine TB.keep fun c o vs e d => hideAll_get _ (D9.k c o (fun q => ?_) (fun q => ?_) (b'.st _ _ (of_hideAll _ e))) fun q => ?_
              · have e2 := b'.st _ _ (of_hideAll _ e)
                obtain ⟨ta, tb, o', e', c', n', d'⟩ := S1.l
                rw [q, e'] at e2; cases e2
                rw [d'] at d; cases d
              · have := of_hideAll _ e
                exact no_at q (nw L (Nat.le_refl L)) this
              · have e2 := of_hideAll _ e
                rcases List.mem_append.mp q with q | q
                · rcases List.mem_cons.mp q with q | q
                  · exact no_at q (nw L (Nat.le_refl L)) e2
                  · rw [List.mem_singleton.mp q, nw (L + 1) (Nat.le_succ L)] at e2; cases e2
                · exact hide_no e q
            · exact D9.k c o (fun q2 => outS (q2 ▸ List.mem_append_right _ hc)) (fun q2 => zL (q2 ▸ hc)) (b'.st _ _ e)
          generalize D9.s.choose_spec.choose = y9 at M9
          generalize D9.s.choose = x9 at M9
          have es := born.es
          have eg := born.eg
          clear born D9 lo5' outW outD outS D5 B5 lD hI
          subst es eg
          have zns : ns.length ≤ 5 := by rw [hnl]; exact hn
          -- one begins
          obtain ⟨s1, s2, s3, sn, IS⟩ := M9.wd.sc.s
          refine DsExpr (P := fun h' => X2 (fun g d => Rm w N Z [L, L + 1] h h' a [g] [d] [rn] x9 y9 [newRow] [newRow] (some 0) ns 0 ∧ UpZ N ([L, L + 1] ++ Z) h9 h'))
            (DoMethod0 M9.ok (IS.keeps hideAll_stays) om_spawn rfl ke.1 (Pe.loc (d := .ref a.S) lo9 rfl) (Do.mono (spawn_spec M9.ok (lw1 _).ar.less M9.wd.sc M9.is (by decide) M9.wd.hiS M9.wd.hiA) fun v h10 p => ?_)) fun h10 p => ?_
          · obtain ⟨g, d, rfl, SC, k10, hd, _, _⟩ := p
            obtain ⟨M10, u10⟩ := M9.spawned k10 SC hd
            exact ⟨g, d, M10, u10⟩
          · obtain ⟨g, d, M10, u10⟩ := p
            have lo10 := u10.lo (by first | exact List.mem_append_left _ (.head _) | exact List.mem_append_left _ (.tail _ (.head _)) | exact List.mem_append_left _ (.tail _ (.tail _ (.head _))) | exact List.mem_append_left _ (.tail _ (.tail _ (.tail _ (.head _)))) | exact .head _ | exact .tail _ (.head _) | simp) lo9
            have ca10 := u10.cellAt (by first | exact List.mem_append_left _ (.head _) | exact List.mem_append_left _ (.tail _ (.head _)) | exact List.mem_append_left _ (.tail _ (.tail _ (.head _))) | exact List.mem_append_left _ (.tail _ (.tail _ (.tail _ (.head _)))) | exact .head _ | exact .tail _ (.head _) | simp) ca9
            clear M9 u10 lo9 ca9 IS k9
            refine DsForRange (lw1 _).hh (P0 := fun u h12 => X5 (fun r m t u' v => X2 (fun x' y' => C5 (u = .ref r) (IsRange h12 r 0 (m : Nat) 1 t u' v) (m ≤ 12) (Rm w N Z [L, L + 1] h h12 a [g] [d] [rn] x' y' [newRow] [newRow] (some 0) ns 0) (UpZ N ([L, L + 1] ++ Z) h10 h12))))
              (DoRangeG M10.ok gl_range (Do.binop (P := fun v h' => h' = h10 ∧ ∃ t, v = .int 4 t) (P2 := fun v u h' => (∃ t, v = .int 4 t) ∧ X4 (fun r t x' y' => C5 (u = .int r t) (0 ≤ r) (r < 9) (Rm w N Z [L, L + 1] h h' a [g] [d] [rn] x' y' [newRow] [newRow] (some 0) ns 0) (UpZ N ([L, L + 1] ++ Z) h10 h')))
                (R := fun v h' => X4 (fun r t x' y' => C5 (v = .int (4 + r) t) (0 ≤ r) (r < 9) (Rm w N Z [L, L + 1] h h' a [g] [d] [rn] x' y' [newRow] [newRow] (some 0) ns 0) (UpZ N ([L, L + 1] ++ Z) h10 h')))
                Pe.int (fun v h11 p => ?_) fun v u h11 p => ?_) fun v h11 p => ?_) fun u h12 p => ?_
            · revert h11 p; refine Mine.i1 fun hv => ?_
              refine Do.mono (DoTake M10.ok ((lw1 _).ar.less (m := 1)).dp M10.src (by decide) (by decide) (Pe.cell ca10 rfl) Pe.int) ?_
              rintro u h12 ⟨r, t, x', y', rfl, r0, r9, S12, k12⟩
              obtain ⟨M12, u12⟩ := M10.drawn k12 S12
              exact ⟨hv, r, t, x', y', rfl, r0, r9, M12, u12⟩
            · obtain ⟨⟨t, rfl⟩, r, t', x', y', rfl, r0, r9, M11, u11⟩ := p
              exact fun s Q E e q => add_int (Do.tick _ e q ⟨r, _, x', y', rfl, r0, r9, M11, u11⟩)
            · obtain ⟨r, t, x', y', rfl, r0, r9, M11, u11⟩ := p
              obtain ⟨m, rfl⟩ := Int.eq_ofNat_of_zero_le r0
              refine ⟨_, t, rfl, M11.ok, fun r h12 t' u' v' k12 nr hr => ⟨r, 4 + m, t', u', v', x', y', rfl, by simpa using hr, by omega, M11.keeps k12, u11.trans (UpZ.keeps k12)⟩⟩
            · obtain ⟨r, m, t, u', v, x', y', rfl, hr, hm, M12, u12⟩ := p
              have lo12 := u12.lo (by first | exact List.mem_append_left _ (.head _) | exact List.mem_append_left _ (.tail _ (.head _)) | exact List.mem_append_left _ (.tail _ (.tail _ (.head _))) | exact List.mem_append_left _ (.tail _ (.tail _ (.tail _ (.head _)))) | exact .head _ | exact .tail _ (.head _) | simp) lo10
              have ca12 := u12.cellAt (by first | exact List.mem_append_left _ (.head _) | exact List.mem_append_left _ (.tail _ (.head _)) | exact List.mem_append_left _ (.tail _ (.tail _ (.head _))) | exact List.mem_append_left _ (.tail _ (.tail _ (.tail _ (.head _)))) | exact .head _ | exact .tail _ (.head _) | simp) ca10
              refine ⟨r, m, t, u', v, fun I i h' => Lp w N Z L h a ns I i h', rfl, hr, by omega, fun I h13 k13 nI zI inn => ?_, fun I i h13 h14 J k14 inn => ?_, fun I i h13 t hi J => ?_, fun I h13 h14 J k14 => ?_⟩
              · have ne : ∀ {b : Addr}, (∃ o, h12.get? b = some o) → I ≠ b := fun ⟨o, e⟩ q => by exact no_at (Eq.symm q) nI e
                refine ⟨⟨fun q => M12.fresh nI (List.mem_append_right _ q), ne (exL lo12), ne (M12.is _ (by first | exact List.mem_append_left _ (.head _) | exact List.mem_append_left _ (.tail _ (.head _)) | exact List.mem_append_left _ (.tail _ (.tail _ (.head _))) | exact List.mem_append_left _ (.tail _ (.tail _ (.tail _ (.head _)))) | exact .head _ | exact .tail _ (.head _) | simp))⟩, [g], [d], [rn], x', y', [newRow], 0, 0, M12.hide k13 nI (Nat.le_trans M12.ok.size zI) inn, ⟨by decide, fun r hr => ?_⟩, Nat.le_refl _, (lo12.keeps k13).of ⟨rfl, rfl, rfl, rfl, rfl, trivial⟩, ca12.at fun o e => k13 _ _ e⟩
                rw [List.mem_singleton.mp hr]; decide +kernel
              · obtain ⟨⟨nI1, nI2, nI3⟩, gs, ds, rs, x, y, rows, hr, tk, J⟩ := J
                obtain ⟨o, e⟩ := inn
                exact ⟨⟨nI1, nI2, nI3⟩, gs, ds, rs, x, y, rows, hr, tk, J.m.own (by first | exact List.mem_append_left _ (.head _) | exact List.mem_append_left _ (.tail _ (.head _)) | exact List.mem_append_left _ (.tail _ (.tail _ (.head _))) | exact List.mem_append_left _ (.tail _ (.tail _ (.tail _ (.head _)))) | exact .head _ | exact .tail _ (.head _) | simp) nI1 k14 e, J.fine, J.le, J.lo.at fun o e => k14 _ o (Ne.symm nI2) e, J.ca.at fun o e => k14 _ o (Ne.symm nI3) e⟩
              · obtain ⟨⟨nI1, nI2, nI3⟩, gs, ds, rs, x, y, rows, hr, tk, J⟩ := J
                have Iin : I ∈ [L, L + 1, I] ++ Z := by simp
                have LI : L ∉ [I] := fun q => nI2 (List.mem_singleton.mp q).symm
                have zL' : ∀ env : Env, env.frame = some L → ∀ b ∈ zs (env :: l), b ∈ [L, L + 1, I] ++ Z := fun env hf b hb => by
                  rw [zs_cons hf] at hb
                  revert b hb; refine Mine.allc ?_ fun b hb => ?_
                  · simp
                  · exact List.mem_append_right _ (zz b hb)
                have fL' : ∀ env : Env, env.frame = some L → ∀ b ∈ zs (env :: l), N ≤ b := fun env hf b hb => by
                  rw [zs_cons hf] at hb
                  revert b hb; refine Mine.allc ?_ fun b hb => ?_
                  · rw [hL]; exact hNs
                  · exact fN b hb
                have hNs' : ∀ {h' : Heap}, (∀ b ∈ [L, L + 1, I] ++ Z, ∃ o, h'.get? b = some o) → N ≤ h'.objs.size := fun k => by
                  obtain ⟨o, e⟩ := k L (by first | exact List.mem_append_left _ (.head _) | exact List.mem_append_left _ (.tail _ (.head _)) | exact List.mem_append_left _ (.tail _ (.tail _ (.head _))) | exact List.mem_append_left _ (.tail _ (.tail _ (.tail _ (.head _)))) | exact .head _ | exact .tail _ (.head _) | simp)
                  have := Heap.lt_size e
                  rw [hL] at this
                  exact Nat.le_trans hNs (Nat.le_of_lt this)
                refine Do.mono (DoName J.lo (d := .int i) ⟨_, rfl⟩) ?_
                rintro _ h14 ⟨lo14, k14⟩
                replace k14 : But L h13 h14 := k14
                replace lo14 : Lo h14 L _ := lo14
                have M14 := J.m.ownLo (L := L) (List.mem_cons_self ..) zL k14 lo14
                have ca14 : CellAt h14 (L + 1) (.ref a.src) := J.ca.at fun o e => k14 _ o cL e
                have uI : UpZ N [I] h13 h14 := up_but k14 LI
                have fine := J.fine
                have le := J.le
                clear J
                refine Ds.ifGo (T := fun _ h' => X2 (fun x' y' => Rm w N Z [L, L + 1, I] h h' a gs ds rs x' y' rows rows (some hr) ns (tk : Nat) ∧ UpZ N ([L, L + 1, I] ++ Z) h14 h')) (P := fun h' => Lp w N Z L h a ns I (i + 1) h' ∧ UpZ N [I] h13 h')
                  (Dt.cmp (P := fun v h' => X4 (fun r t x' y' => C3 (v = .int r t) (Rm w N Z [L, L + 1, I] h h' a gs ds rs x' y' rows rows (some hr) ns (tk : Nat)) (UpZ N ([L, L + 1, I] ++ Z) h14 h')))
                    (P2 := fun v u h' => (∃ r t, v = .int r t) ∧ (∃ t, u = .int 0 t) ∧ X2 (fun x' y' => Rm w N Z [L, L + 1, I] h h' a gs ds rs x' y' rows rows (some hr) ns (tk : Nat) ∧ UpZ N ([L, L + 1, I] ++ Z) h14 h'))
                    (Do.mono (DoTake M14.ok ((lw1 _).ar.less (m := 1)).dp M14.src (by decide) (by decide) (Pe.cell ca14 rfl) Pe.int) ?_) (fun v h15 p => ?_) fun v u h15 p => ?_) ?_ ?_ ?_
                · rintro v h15 ⟨r, t, x', y', rfl, _, _, S15, k15⟩
                  obtain ⟨M15, u15⟩ := M14.drawn k15 S15
                  exact ⟨r, t, x', y', rfl, M15, u15⟩
                · obtain ⟨r, t, x', y', rfl, M15, u15⟩ := p
                  refine Pe.int.mono ?_
                  refine Mine.i2t fun t' => ?_
                  exact ⟨⟨r, t, rfl⟩, ⟨t', rfl⟩, x', y', M15, u15⟩
                · obtain ⟨⟨r, t, rfl⟩, ⟨t', rfl⟩, x', y', M15, u15⟩ := p
                  refine (Cmp.gt _ _ ⟨_, rfl⟩ ⟨_, rfl⟩).mono ?_
                  refine Mine.i2 ?_
                  exact ⟨_, rfl, x', y', M15, u15⟩
                · rintro h15 ⟨x', y', M15, u15⟩
                  have lo15 := u15.lo (by first | exact List.mem_append_left _ (.head _) | exact List.mem_append_left _ (.tail _ (.head _)) | exact List.mem_append_left _ (.tail _ (.tail _ (.head _))) | exact List.mem_append_left _ (.tail _ (.tail _ (.tail _ (.head _)))) | exact .head _ | exact .tail _ (.head _) | simp) lo14
                  have ca15 := u15.cellAt (by first | exact List.mem_append_left _ (.head _) | exact List.mem_append_left _ (.tail _ (.head _)) | exact List.mem_append_left _ (.tail _ (.tail _ (.head _))) | exact List.mem_append_left _ (.tail _ (.tail _ (.tail _ (.head _)))) | exact .head _ | exact .tail _ (.head _) | simp) ca14
                  have F15 : FOk l h15 := F.up M15.up zz
                  refine DsLet (P := fun v h' => (∃ t, v = .int hr t) ∧ Done w N ([L, L + 1, I] ++ Z) a ns (tk : Nat) h15 hr h') (Do.callName (Pe.glob (d := .ref 234) M15.ok gl_law_deed rfl) fun u h16 p => ?_) fun v h16 p => ?_
                  · revert u h16 p; refine Mine.i2 ?_
                    refine DoCallWith (K := KP w.params) (Callable.ofK ke_f.2.2.2.2.2.1) (Args.plain1 (Pe.cell ca15 rfl) (Args.plain1 (Pe.loc (d := .ref a.S) lo15 rfl) (Args.plain1 (Pe.loc (d := .ref a.R) lo15 rfl) (Args.plain1 (Pe.loc (d := .int hr) lo15 rfl) (Args.plain1 (Pe.loc (d := .int i) lo15 rfl) Args.plain0))))) fun vs h17 p => ?_
                    revert h17 p; refine Mine.i1 fun q => ?_
                    obtain ⟨v1, v2, v3, v4, v5, rfl, rfl, rfl, rfl, ⟨t4, rfl⟩, ⟨t5, rfl⟩⟩ := q.five
                    exact ⟨M15.ok, deed_spec M15.ok (lw1 _).less (Around.frames_deeper hfr) (F15.cons rfl rfl lo15) (zL' _ rfl) M15.is M15.ntY hN (fL' _ rfl) (hNs' M15.is) M15.wd fine⟩
                  · obtain ⟨⟨t, rfl⟩, ok16, u16, gs', ds', rs', x'', y'', rows', W16, fine'⟩ := p
                    have M16 := M15.step ok16 W16 u16
                    have lo16 := u16.lo (by first | exact List.mem_append_left _ (.head _) | exact List.mem_append_left _ (.tail _ (.head _)) | exact List.mem_append_left _ (.tail _ (.tail _ (.head _))) | exact List.mem_append_left _ (.tail _ (.tail _ (.tail _ (.head _)))) | exact .head _ | exact .tail _ (.head _) | simp) lo15
                    have ca16 := u16.cellAt (by first | exact List.mem_append_left _ (.head _) | exact List.mem_append_left _ (.tail _ (.head _)) | exact List.mem_append_left _ (.tail _ (.tail _ (.head _))) | exact List.mem_append_left _ (.tail _ (.tail _ (.tail _ (.head _)))) | exact .head _ | exact .tail _ (.head _) | simp) ca15
                    refine ⟨_, .int hr, lo16, ⟨_, rfl⟩, fun h17 lo17 k17 => ?_⟩
                    replace k17 : But L h16 h17 := k17
                    replace lo17 : Lo h17 L _ := lo17
                    have M17 := M16.ownLo (L := L) (List.mem_cons_self ..) zL k17 lo17
                    exact Ds.ifNo (Pt.cmp Cmp.intIs (Pe.loc (d := .int hr) lo17 rfl) Pe.none) (Ds.nil ⟨rfl, ⟨⟨nI1, nI2, nI3⟩, gs', ds', rs', x'', y'', rows', hr, tk, M17, fine', Nat.le_succ_of_le le, lo17.of ⟨rfl, rfl, rfl, rfl, rfl, trivial⟩, ca16.at fun o e => k17 _ o cL e⟩, ((uI.trans (u15.one Iin)).trans (u16.one Iin)).trans (up_but k17 LI)⟩)
                · rintro h15 ⟨x', y', M15, u15⟩
                  have lo15 := u15.lo (by first | exact List.mem_append_left _ (.head _) | exact List.mem_append_left _ (.tail _ (.head _)) | exact List.mem_append_left _ (.tail _ (.tail _ (.head _))) | exact List.mem_append_left _ (.tail _ (.tail _ (.tail _ (.head _)))) | exact .head _ | exact .tail _ (.head _) | simp) lo14
                  have ca15 := u15.cellAt (by first | exact List.mem_append_left _ (.head _) | exact List.mem_append_left _ (.tail _ (.head _)) | exact List.mem_append_left _ (.tail _ (.tail _ (.head _))) | exact List.mem_append_left _ (.tail _ (.tail _ (.tail _ (.head _)))) | exact .head _ | exact .tail _ (.head _) | simp) ca14
                  have hi : hr < rows.length := M15.wd.sc.lo hr rfl
                  obtain ⟨ri, hri⟩ : ∃ r, rows[hr]? = some r := ⟨_, List.getElem?_eq_getElem hi⟩
                  have l5 := fine.len
                  have rlen : rs.length = rows.length := M15.wd.rw.len
                  have zR : (((rs.map Value.ref).toArray.size : Nat) : Int) = rows.length := by simp [rlen]
                  refine Ds.ifGo (T := fun _ h' => X2 (fun x' y' => Rm w N Z [L, L + 1, I] h h' a gs ds rs x' y' rows rows (some hr) ns (tk : Nat) ∧ UpZ N ([L, L + 1, I] ++ Z) h15 h')) (P := fun h' => Lp w N Z L h a ns I (i + 1) h' ∧ UpZ N [I] h13 h')
                    (Dt.and2 (P := fun _ h' => X2 (fun x' y' => Rm w N Z [L, L + 1, I] h h' a gs ds rs x' y' rows rows (some hr) ns (tk : Nat) ∧ UpZ N ([L, L + 1, I] ++ Z) h15 h'))
                      (Dt.cmp (P := fun v h' => X4 (fun r t x' y' => C3 (v = .int r t) (Rm w N Z [L, L + 1, I] h h' a gs ds rs x' y' rows rows (some hr) ns (tk : Nat)) (UpZ N ([L, L + 1, I] ++ Z) h15 h')))
                        (P2 := fun v u h' => (∃ r t, v = .int r t) ∧ (∃ t, u = .int 0 t) ∧ X2 (fun x' y' => Rm w N Z [L, L + 1, I] h h' a gs ds rs x' y' rows rows (some hr) ns (tk : Nat) ∧ UpZ N ([L, L + 1, I] ++ Z) h15 h'))
                        (Do.mono (DoTake M15.ok ((lw1 _).ar.less (m := 1)).dp M15.src (by decide) (by decide) (Pe.cell ca15 rfl) Pe.int) ?_) (fun v h16 p => ?_) fun v u h16 p => ?_) (fun h16 p => ?_) fun h16 p => p) ?_ ?_ fun h16 p => Ds.nil ⟨rfl, p⟩
                  · rintro v h16 ⟨r, t, x'', y'', rfl, _, _, S16, k16⟩
                    obtain ⟨M16, u16⟩ := M15.drawn k16 S16
                    exact ⟨r, t, x'', y'', rfl, M16, u16⟩
                  · obtain ⟨r, t, x'', y'', rfl, M16, u16⟩ := p
                    refine Pe.int.mono ?_
                    refine Mine.i2t fun t' => ?_
                    exact ⟨⟨r, t, rfl⟩, ⟨t', rfl⟩, x'', y'', M16, u16⟩
                  · obtain ⟨⟨r, t, rfl⟩, ⟨t', rfl⟩, x'', y'', M16, u16⟩ := p
                    refine (Cmp.eq _ _ ⟨_, rfl⟩ ⟨_, rfl⟩).mono ?_
                    refine Mine.i2 ?_
                    exact ⟨_, rfl, x'', y'', M16, u16⟩
                  · obtain ⟨x'', y'', M16, u16⟩ := p
                    have lo16 := u16.lo (by first | exact List.mem_append_left _ (.head _) | exact List.mem_append_left _ (.tail _ (.head _)) | exact List.mem_append_left _ (.tail _ (.tail _ (.head _))) | exact List.mem_append_left _ (.tail _ (.tail _ (.tail _ (.head _)))) | exact .head _ | exact .tail _ (.head _) | simp) lo15
                    obtain ⟨bi, tsi, wvi, avi, hbi, hbm, hli, hwi, hai⟩ := M16.row hri
                    have R16 := (plain_of_hide M16.wd.rw.rlp).isList
                    refine Do.mono (Pt.cmp (a := .str ri.st) Cmp.eqS (Pe.item hli (by decide) (by decide) rfl ⟨_, rfl⟩ (Pe.item (d := .ref bi) R16 (i := hr) (by with_reducible first | exact Int.natCast_nonneg _ | exact z63 (by assumption) (by assumption) | exact z65 (by assumption) (by assumption) | exact zn (by assumption) | exact le5 (by assumption) (by assumption) | exact Int.ofNat_lt.mpr (by assumption) | exact Nat.le_of_lt (by assumption) | exact Nat.le_trans (by assumption) (by decide) | omega) (by with_reducible first | exact Int.natCast_nonneg _ | exact z63 (by assumption) (by assumption) | exact z65 (by assumption) (by assumption) | exact zn (by assumption) | exact le5 (by assumption) (by assumption) | exact Int.ofNat_lt.mpr (by assumption) | exact Nat.le_of_lt (by assumption) | exact Nat.le_trans (by assumption) (by decide) | omega) (by first | exact gi hbi | simp [hbi]) rfl (Pe.loc (d := .ref a.R) lo16 rfl) (Pe.loc (d := .int hr) lo16 rfl)) Pe.int) Pe.str) ?_
                    refine Mine.i2 ?_
                    exact ⟨x'', y'', M16, u16⟩
                  · rintro h16 ⟨x'', y'', M16, u16⟩
                    have lo16 := u16.lo (by first | exact List.mem_append_left _ (.head _) | exact List.mem_append_left _ (.tail _ (.head _)) | exact List.mem_append_left _ (.tail _ (.tail _ (.head _))) | exact List.mem_append_left _ (.tail _ (.tail _ (.tail _ (.head _)))) | exact .head _ | exact .tail _ (.head _) | simp) lo15
                    have ca16 := u16.cellAt (by first | exact List.mem_append_left _ (.head _) | exact List.mem_append_left _ (.tail _ (.head _)) | exact List.mem_append_left _ (.tail _ (.tail _ (.head _))) | exact List.mem_append_left _ (.tail _ (.tail _ (.tail _ (.head _)))) | exact .head _ | exact .tail _ (.head _) | simp) ca15
                    obtain ⟨s1, s2, s3, sn, IS⟩ := M16.wd.sc.s
                    obtain ⟨g', d', hg', hd', G⟩ := M16.wd.sc.look hri
                    refine DsExpr (P := fun h' => Rm w N Z [L, L + 1, I] h h' a gs ds rs x'' y'' (rows.set hr { ri with st := "ended" }) rows (some hr) ns (tk : Nat) ∧ UpZ N ([L, L + 1, I] ++ Z) h16 h')
                      (DoMethod0 M16.ok (IS.keeps hideAll_stays) om_end rfl ke.2.2.2.2.2.2.1 (Pe.loc (d := .ref a.S) lo16 rfl) (Do.mono (end_spec (g := g') M16.ok (lw1 _).ar.less M16.wd.sc hd' hri (M16.wd.hiD d' (List.mem_of_getElem? hd'))) fun v h17 p => ?_)) fun h17 p => ?_
                    · obtain ⟨k17, SC17⟩ := p
                      exact M16.ruled (List.mem_of_getElem? hd') k17 SC17
                    · obtain ⟨M17, u17⟩ := p
                      have lo17 := u17.lo (by first | exact List.mem_append_left _ (.head _) | exact List.mem_append_left _ (.tail _ (.head _)) | exact List.mem_append_left _ (.tail _ (.tail _ (.head _))) | exact List.mem_append_left _ (.tail _ (.tail _ (.tail _ (.head _)))) | exact .head _ | exact .tail _ (.head _) | simp) lo16
                      have ca17 := u17.cellAt (by first | exact List.mem_append_left _ (.head _) | exact List.mem_append_left _ (.tail _ (.head _)) | exact List.mem_append_left _ (.tail _ (.tail _ (.head _))) | exact List.mem_append_left _ (.tail _ (.tail _ (.tail _ (.head _)))) | exact .head _ | exact .tail _ (.head _) | simp) ca16
                      obtain ⟨bi, tsi, wvi, avi, hbi, hbm, hli, hwi, hai⟩ := M17.row hri
                      have R17 := (plain_of_hide M17.wd.rw.rlp).isList
                      refine Ds.setItemP hli (by decide) (by decide) (by first | exact List.mem_append_left _ (.head _) | exact List.mem_append_left _ (.tail _ (.head _)) | exact List.mem_append_left _ (.tail _ (.tail _ (.head _))) | exact List.mem_append_left _ (.tail _ (.tail _ (.tail _ (.head _)))) | exact .head _ | exact .tail _ (.head _) | simp) (Pe.str (x := "ended")) (Pe.item (d := .ref bi) R17 (i := hr) (by with_reducible first | exact Int.natCast_nonneg _ | exact z63 (by assumption) (by assumption) | exact z65 (by assumption) (by assumption) | exact zn (by assumption) | exact le5 (by assumption) (by assumption) | exact Int.ofNat_lt.mpr (by assumption) | exact Nat.le_of_lt (by assumption) | exact Nat.le_trans (by assumption) (by decide) | omega) (by with_reducible first | exact Int.natCast_nonneg _ | exact z63 (by assumption) (by assumption) | exact z65 (by assumption) (by assumption) | exact zn (by assumption) | exact le5 (by assumption) (by assumption) | exact Int.ofNat_lt.mpr (by assumption) | exact Nat.le_of_lt (by assumption) | exact Nat.le_trans (by assumption) (by decide) | omega) (by first | exact gi hbi | simp [hbi]) rfl (Pe.loc (d := .ref a.R) lo17 rfl) (Pe.loc (d := .int hr) lo17 rfl)) Pe.int ?_
                      rintro v h18 ⟨t18, rfl⟩ l18 s18
                      have ob := M17.out (.tail _ (.tail _ (.tail _ (.tail _ hbm))))
                      have tp : Tups (hideAll h17 ([L, L + 1, I] ++ Z)) (hideAll h18 ([L, L + 1, I] ++ Z)) := fun c vs n e => by
                        refine hideAll_get _ (SameBut.but s18 _ _ (fun q => ?_) (of_hideAll _ e)) (hide_no e)
                        exact list_notup hli vs n (q ▸ of_hideAll _ e)
                      obtain ⟨M18, u18⟩ := M17.turned hbi hri (SameBut.but s18) (r' := { ri with st := "ended" }) ⟨t18, wvi, avi, isList_hide l18 ob, hwi.off tp, hai⟩
                      exact Ds.nil ⟨rfl, ⟨⟨nI1, nI2, nI3⟩, gs, ds, rs, x'', y'', _, hr, tk, M18, fine.set (show PyData.strOk (Str.ofString "ended") = true by decide +kernel), Nat.le_succ_of_le le, (u18.lo (by first | exact List.mem_append_left _ (.head _) | exact List.mem_append_left _ (.tail _ (.head _)) | exact List.mem_append_left _ (.tail _ (.tail _ (.head _))) | exact List.mem_append_left _ (.tail _ (.tail _ (.tail _ (.head _)))) | exact .head _ | exact .tail _ (.head _) | simp) lo17).of ⟨rfl, rfl, rfl, rfl, rfl, trivial⟩, u18.cellAt (by first | exact List.mem_append_left _ (.head _) | exact List.mem_append_left _ (.tail _ (.head _)) | exact List.mem_append_left _ (.tail _ (.tail _ (.head _))) | exact List.mem_append_left _ (.tail _ (.tail _ (.tail _ (.head _)))) | exact .head _ | exact .tail _ (.head _) | simp) ca17⟩,
                        (((uI.trans (u15.one Iin)).trans (u16.one Iin)).trans (u17.one Iin)).trans (u18.one Iin)⟩
                  · rintro h16 ⟨x'', y'', M16, u16⟩
                    have lo16 := u16.lo (by first | exact List.mem_append_left _ (.head _) | exact List.mem_append_left _ (.tail _ (.head _)) | exact List.mem_append_left _ (.tail _ (.tail _ (.head _))) | exact List.mem_append_left _ (.tail _ (.tail _ (.tail _ (.head _)))) | exact .head _ | exact .tail _ (.head _) | simp) lo15
                    have ca16 := u16.cellAt (by first | exact List.mem_append_left _ (.head _) | exact List.mem_append_left _ (.tail _ (.head _)) | exact List.mem_append_left _ (.tail _ (.tail _ (.head _))) | exact List.mem_append_left _ (.tail _ (.tail _ (.tail _ (.head _)))) | exact .head _ | exact .tail _ (.head _) | simp) ca15
                    have hch' : ∀ j, chosen ns tk (idxOf (stIs "ready") rows) = some j → j < rows.length := fun j e => idxOf_lt e
                    generalize hch : chosen ns tk (idxOf (stIs "ready") rows) = ch at hch'
                    have htk' : takenOf tk (idxOf (stIs "ready") rows).length ≤ tk + 1 := takenOf_le
                    generalize htk : takenOf tk (idxOf (stIs "ready") rows).length = tk' at htk'
                    have glen : gs.length = rows.length := M16.wd.sc.lg
                    obtain ⟨vs, hvs, hints⟩ := M16.wd.sc.dg
                    refine DsNames2 (lw1 _).hh (P := fun v h' => h16.StaysIn h' ∧ X4 (fun T n gv tt => C3 (v = .ref T) (h'.get? T = some (tupObj #[gv, .int tk' tt] n)) ((nuD ch).Is gv))) (Do.callName (Pe.glob (d := .ref 227) M16.ok gl_law_chosen rfl) fun u h17 p => ?_) fun v h17 p => ?_
                    · revert u h17 p; refine Mine.i2 ?_
                      refine DoCallWith (K := KP w.params) (Callable.ofK ke_f.2.2.2.2.1) (Args.plain1 (Pe.loc (d := .ref a.R) lo16 rfl) (Args.plain1 (Pe.loc (d := .ref a.DG) lo16 rfl) (Args.plain1 (Pe.loc (d := .int tk) lo16 rfl) Args.plain0))) fun vs' h18 p => ?_
                      revert h18 p; refine Mine.i1 fun q => ?_
                      obtain ⟨v1, v2, v3, rfl, rfl, rfl, ⟨t3, rfl⟩⟩ := q.three
                      refine ⟨M16.ok, (chosen_spec M16.ok (lw1 _).ar.less (M16.wd.rw.keeps hideAll_stays) (IsList_keeps hvs hideAll_stays) hints (by with_reducible first | exact Int.natCast_nonneg _ | exact z63 (by assumption) (by assumption) | exact z65 (by assumption) (by assumption) | exact zn (by assumption) | exact le5 (by assumption) (by assumption) | exact Int.ofNat_lt.mpr (by assumption) | exact Nat.le_of_lt (by assumption) | exact Nat.le_trans (by assumption) (by decide) | omega) (by with_reducible first | exact Int.natCast_nonneg _ | exact z63 (by assumption) (by assumption) | exact z65 (by assumption) (by assumption) | exact zn (by assumption) | exact le5 (by assumption) (by assumption) | exact Int.ofNat_lt.mpr (by assumption) | exact Nat.le_of_lt (by assumption) | exact Nat.le_trans (by assumption) (by decide) | omega) (by with_reducible first | exact Int.natCast_nonneg _ | exact z63 (by assumption) (by assumption) | exact z65 (by assumption) (by assumption) | exact zn (by assumption) | exact le5 (by assumption) (by assumption) | exact Int.ofNat_lt.mpr (by assumption) | exact Nat.le_of_lt (by assumption) | exact Nat.le_trans (by assumption) (by decide) | omega)).mono ?_⟩
                      rintro v h19 ⟨k19, T, n, gv, tt, rfl, eT, hgv⟩
                      rw [hch] at hgv
                      rw [htk] at eT
                      exact ⟨k19, T, n, gv, tt, rfl, eT, hgv.nu⟩
                    · obtain ⟨k17, T, n, gv, tt, rfl, eT, hgv⟩ := p
                      refine ⟨T, gv, .int tk' tt, nuD ch, .int tk', _, rfl, ⟨_, eT, rfl, n, rfl⟩, hgv, ⟨_, rfl⟩, lo16.keeps k17, fun h18 lo18 k18 => ?_⟩
                      replace k18 : But L h17 h18 := k18
                      replace lo18 : Lo h18 L _ := lo18
                      have M18 := (M16.keeps k17).ownLo (L := L) (List.mem_cons_self ..) zL k18 lo18
                      have ca18 : CellAt h18 (L + 1) (.ref a.src) := ca16.at fun o e => k18 _ o cL (k17 _ _ e)
                      obtain ⟨s1, s2, s3, sn, IS⟩ := M18.wd.sc.s
                      refine DsLet (P := fun v h' => v = hereVal gs ch ∧ Rm w N Z [L, L + 1, I] h h' a gs ds rs x'' y'' rows rows (some (ch.getD hr)) ns (tk' : Nat) ∧ UpZ N ([L, L + 1, I] ++ Z) h18 h')
                        (DoMethod0 M18.ok (IS.keeps hideAll_stays) om_choose rfl ke.2.2.2.2.2.2.2.1 (Pe.loc (d := .ref a.S) lo18 rfl) (Do.mono (choose_spec M18.ok (lw1 _).ar.less M18.wd.sc M18.is (by with_reducible first | exact Int.natCast_nonneg _ | exact z63 (by assumption) (by assumption) | exact z65 (by assumption) (by assumption) | exact zn (by assumption) | exact le5 (by assumption) (by assumption) | exact Int.ofNat_lt.mpr (by assumption) | exact Nat.le_of_lt (by assumption) | exact Nat.le_trans (by assumption) (by decide) | omega) M18.wd.hiS M18.wd.hiC (by with_reducible first | exact Int.natCast_nonneg _ | exact z63 (by assumption) (by assumption) | exact z65 (by assumption) (by assumption) | exact zn (by assumption) | exact le5 (by assumption) (by assumption) | exact Int.ofNat_lt.mpr (by assumption) | exact Nat.le_of_lt (by assumption) | exact Nat.le_trans (by assumption) (by decide) | omega) (by with_reducible first | exact Int.natCast_nonneg _ | exact z63 (by assumption) (by assumption) | exact z65 (by assumption) (by assumption) | exact zn (by assumption) | exact le5 (by assumption) (by assumption) | exact Int.ofNat_lt.mpr (by assumption) | exact Nat.le_of_lt (by assumption) | exact Nat.le_trans (by assumption) (by decide) | omega)) fun v h19 p => ?_)) fun v h19 p => ?_
                      · rw [hch, htk] at p
                        obtain ⟨rfl, SC19, k19⟩ := p
                        have e : hereNext (some hr) ch = some (ch.getD hr) := by cases ch <;> rfl
                        rw [e] at SC19
                        obtain ⟨M19, u19⟩ := M18.chose k19 SC19
                        exact ⟨rfl, M19, u19⟩
                      · obtain ⟨rfl, M19, u19⟩ := p
                        have lo19 := u19.lo (by first | exact List.mem_append_left _ (.head _) | exact List.mem_append_left _ (.tail _ (.head _)) | exact List.mem_append_left _ (.tail _ (.tail _ (.head _))) | exact List.mem_append_left _ (.tail _ (.tail _ (.tail _ (.head _)))) | exact .head _ | exact .tail _ (.head _) | simp) lo18
                        have ca19 := u19.cellAt (by first | exact List.mem_append_left _ (.head _) | exact List.mem_append_left _ (.tail _ (.head _)) | exact List.mem_append_left _ (.tail _ (.tail _ (.head _))) | exact List.mem_append_left _ (.tail _ (.tail _ (.tail _ (.head _)))) | exact .head _ | exact .tail _ (.head _) | simp) ca18
                        refine ⟨_, heD gs ch, lo19, heD_is, fun h20 lo20 k20 => ?_⟩
                        replace k20 : But L h19 h20 := k20
                        replace lo20 : Lo h20 L _ := lo20
                        have M20 := M19.ownLo (L := L) (List.mem_cons_self ..) zL k20 lo20
                        have ca20 : CellAt h20 (L + 1) (.ref a.src) := ca19.at fun o e => k20 _ o cL e
                        refine Ds.ifNo (Pt.cmp (Cmp.nuNe ch) ?_ (Pe.loc (d := nuD ch) lo20 rfl)) ?_
                        · cases ch with
                          | none => exact Pe.ifExp (Pt.cmp Cmp.noneIs (Pe.loc (d := .none) lo20 rfl) Pe.none) (fun _ => Pe.none) (fun hc => by cases hc)
                          | some j =>
                            obtain ⟨rj, hrj⟩ : ∃ r, rows[j]? = some r := ⟨_, List.getElem?_eq_getElem (hch' j rfl)⟩
                            obtain ⟨gj, dj, hgj, hdj, G⟩ := M20.wd.sc.look hrj
                            have eh : heD gs (some j) = .ref gj := by simp [heD, hgj]
                            rw [eh] at lo20
                            obtain ⟨es, ne, I', ti, ts, wv, fr, av, g1, g2, g3, g4, g5, hw, ha⟩ := G.inst
                            exact Pe.ifExp (Pt.cmp Cmp.refIs (Pe.loc (d := .ref gj) lo20 rfl) Pe.none) (fun hc => by cases hc) fun _ => Pe.attr (d := .int j) M20.ok (I'.keeps hideAll_stays) oa_71_number g1 ⟨_, rfl⟩ (Pe.loc (d := .ref gj) lo20 rfl)
                        · refine DsLet (P := fun v h' => h' = h20 ∧ (D.int (ch.getD hr : Nat)).Is v) ?_ fun v h21 p => ?_
                          · cases ch with
                            | none => exact Pe.ifExp (Pt.cmp Cmp.noneIs (Pe.loc (d := .none) lo20 rfl) Pe.none) (fun _ => Pe.loc (d := .int hr) lo20 rfl) (fun hc => by cases hc)
                            | some j => exact Pe.ifExp (Pt.cmp (a := .int j) Cmp.intIs (Pe.loc (d := .int j) lo20 rfl) Pe.none) (fun hc => by cases hc) fun _ => Pe.loc (d := .int j) lo20 rfl
                          · revert h21 p; refine Mine.i1 fun hv => ?_
                            refine ⟨_, .int (ch.getD hr : Nat), lo20, hv, fun h22 lo22 k22 => ?_⟩
                            replace k22 : But L h20 h22 := k22
                            replace lo22 : Lo h22 L _ := lo22
                            have M22 := M20.ownLo (L := L) (List.mem_cons_self ..) zL k22 lo22
                            exact Ds.nil ⟨rfl, ⟨⟨nI1, nI2, nI3⟩, gs, ds, rs, x'', y'', rows, ch.getD hr, tk', M22, fine, Nat.le_trans htk' (Nat.succ_le_succ le), lo22.of ⟨rfl, rfl, rfl, rfl, rfl, trivial⟩, ca20.at fun o e => k22 _ o cL e⟩,
                              (((((((uI.trans (u15.one Iin)).trans (u16.one Iin)).trans (UpZ.keeps k17)).trans (up_but k18 LI)).trans (u19.one Iin)).trans (up_but k20 LI)).trans (up_but k22 LI))⟩
                · rintro h15 ⟨⟨_, gs, ds, rs, x, y, rows, hr, tk, J⟩, u15⟩
                  have l5 := J.fine.len
                  refine Ds.ifRet (T := fun c h' => c = false ∧ h15.StaysIn h') (Dt.not (Dt.value (P := fun v h' => v = .bool true ∧ h15.StaysIn h') (Do.callName (Pe.glob (d := .ref 215) J.m.ok gl_law_stands rfl) fun u h16 p => ?_) fun v h16 p => ⟨true, p.1, rfl, p.2⟩)) ?_ ?_
                  · revert u h16 p; refine Mine.i2 ?_
                    refine DoCallWith (K := KP w.params) (Callable.ofK ke_f.2.2.1) (Args.plain1 (Pe.loc (d := .ref a.S) J.lo rfl) (Args.plain1 (Pe.loc (d := .ref a.R) J.lo rfl) (Args.plain1 (Pe.loc (d := .int hr) J.lo rfl) (Args.plain1 (Pe.loc (d := .int tk) J.lo rfl) Args.plain0)))) fun vs h17 p => ?_
                    revert h17 p; refine Mine.i1 fun q => ?_
                    obtain ⟨v1, v2, v3, v4, rfl, rfl, rfl, ⟨t3, rfl⟩, ⟨t4, rfl⟩⟩ := q.four
                    refine ⟨J.m.ok, (stands_spec J.m.ok (lw1 _).ar.less (J.m.wd.sc.keeps hideAll_stays) (J.m.wd.rw.keeps hideAll_stays) (by with_reducible first | exact Int.natCast_nonneg _ | exact z63 (by assumption) (by assumption) | exact z65 (by assumption) (by assumption) | exact zn (by assumption) | exact le5 (by assumption) (by assumption) | exact Int.ofNat_lt.mpr (by assumption) | exact Nat.le_of_lt (by assumption) | exact Nat.le_trans (by assumption) (by decide) | omega) J.fine.st).mono ?_⟩
                    rintro v h18 ⟨k18, rfl⟩
                    exact ⟨rfl, k18⟩
                  · rintro h16 ⟨hf, _⟩
                    cases hf
                  · rintro h16 ⟨_, k16⟩
                    have u16 : UpZ N [I] h13 h16 := u15.trans (UpZ.keeps k16)
                    exact Ds.nil ⟨rfl, ⟨⟨nI1, nI2, nI3⟩, gs, ds, rs, x, y, rows, hr, tk, J.m.keeps k16, J.fine, J.le, J.lo.keeps k16, J.ca.at fun o e => k16 _ _ e⟩, fun o vs e d => (u16 I (List.mem_singleton.mpr rfl) o e).2 (.inr fun es ep q => by rw [d] at q; cases q)⟩
              · obtain ⟨⟨nI1, nI2, nI3⟩, gs, ds, rs, x, y, rows, hr, tk, J⟩ := J
                refine Ds.ret (Pe.bool.mono ?_)
                refine Mine.i2 ?_
                obtain ⟨ps, e229, _⟩ := J.m.wd.tab.keeps hideAll_stays
                have I254 := J.m.hi I (by first | exact List.mem_append_left _ (.head _) | exact List.mem_append_left _ (.tail _ (.head _)) | exact List.mem_append_left _ (.tail _ (.tail _ (.head _))) | exact List.mem_append_left _ (.tail _ (.tail _ (.tail _ (.head _)))) | exact .head _ | exact .tail _ (.head _) | simp)
                exact hRR _ _ ⟨rfl, J.m.ok.but k14 I254, J.m.up.trans (up_but k14 nI1), ps, k14 _ _ (Nat.ne_of_lt (Nat.lt_of_lt_of_le (by decide) I254)) e229⟩
end
end Mine
end

-- Pool
section
open PySem PySem.W PySem.Calls PyProof.Rows PySem.Spec PySem.SeqAt
set_option tactic.hygienic false
namespace Mine
section
variable {PR : Program} {w : World} {A : Around} {env : Env} {h : Heap} {K : Frag}
theorem Pe.neg {x : Expr} {pos : Pos} {a : Int} (d : Pe PR w A x env h (.int a)) : Pe PR w A (.UnaryOp .USub x pos) env h (.int (-a)) := fun s Q E e q =>
  wpAny_UnaryOp (d s _ E e fun v h1 tk p => by
    obtain ⟨rfl, t, rfl⟩ := p
    exact PyProof.Rows.neg_int (Do.tick (s := { s with heap := h1, toks := tk }) _ rfl q ⟨rfl, _, rfl⟩))
theorem Pe.pow {l r : Expr} {pos : Pos} {a n : Int} (h0 : 0 ≤ n) (h1 : n ≤ 1000000) (ha : a.natAbs < 2 ^ 64) (dl : Pe PR w A l env h (.int a)) (dr : Pe PR w A r env h (.int n)) : Pe PR w A (.BinOp l .Pow r pos) env h (.int (a ^ n.toNat)) :=
  Pe.binop dl dr fun x y ⟨_, ex⟩ ⟨_, ey⟩ s Q E e q => by subst ex ey; exact pow_int_small h0 h1 ha (Do.tick _ e q ⟨rfl, _, rfl⟩)
-- int(a truth value)
theorem Pe.intB {x : Expr} {np pos : Pos} {b : Bool} (B : Ok K h) (e : nsIn K mainGlobals "int" = some .none) (d : Pe PR w A x env h (.bool b)) (hg : env.globals = mainGlobals := by rfl) (hb : env.builtins = builtinsNs := by rfl) (hk : env.scope.kind = .function := by rfl) (hx : env.kindOf "int" = some .globalImplicit := by rfl)
    (he : starEach [x] env = (false, eval x env) :: starEach [] env := by rfl) : Pe PR w A (.Call (.Name "int" np) [x] [] pos) env h (.int (if b then 1 else 0)) :=
  Do.callName (Do.builtin B e (v := .type "int") (by boot_fast) (by decide) hg hb hk hx) fun u h1 p => by
    revert u h1 p; refine i2 ?_
    refine DoCallWith (K := K) Callable.type (Args.plain1 (he := he) d Args.plain0) (fun vs h2 p => ?_) (he := he)
    revert h2 p; refine i1 fun p => ?_
    obtain ⟨v, rfl, rfl⟩ := p.one
    exact ⟨B, fun s Q E e q => call_int_bool (Do.tick _ e q ⟨rfl, _, rfl⟩)⟩
-- max(x, y) of two ints
theorem DoMax {x y : Expr} {np pos : Pos} {a b : Int} (B : Ok K h) (hh : A.handled = none) (e : nsIn K mainGlobals "max" = some .none) (dx : Pe PR w A x env h (.int a)) (dy : Pe PR w A y env h (.int b)) (hg : env.globals = mainGlobals := by rfl) (hb : env.builtins = builtinsNs := by rfl) (hk : env.scope.kind = .function := by rfl) (hx : env.kindOf "max" = some .globalImplicit := by rfl)
    (he : starEach [x, y] env = (false, eval x env) :: starEach [y] env := by rfl) (he2 : starEach [y] env = (false, eval y env) :: starEach [] env := by rfl) (hp : (backTo pos (starEach [y] env)).any (·.1) = false := by rfl) :
    Do PR w A (eval (.Call (.Name "max" np) [x, y] [] pos) env) h fun v h' => h.StaysIn h' ∧ (D.int (max a b)).Is v :=
  Do.callName (Do.builtin B e (v := .builtin "max") (by boot_fast) (by decide) hg hb hk hx) fun u h1 p => by
    revert u h1 p; refine i2 ?_
    refine DoCallWith (K := K) Callable.id (Args.plain1 (he := he) dx (Args.plain1 (he := he2) dy Args.plain0)) (fun vs h2 p => ?_) (he := he) (hp := hp)
    revert h2 p; refine i1 fun p => ?_
    obtain ⟨v, u, rfl, ⟨t, rfl⟩, ⟨t', rfl⟩⟩ := p.two
    refine ⟨B, fun s Q E e q => ?_⟩
    subst e
    refine max_two_ints hh fun h' tk k => q _ h' tk ⟨k, ?_⟩
    by_cases hab : b > a
    · rw [if_pos hab, Int.max_eq_right (by with_reducible first | exact Int.natCast_nonneg _ | exact z63 (by assumption) (by assumption) | exact z65 (by assumption) (by assumption) | exact zn (by assumption) | exact le5 (by assumption) (by assumption) | exact Int.ofNat_lt.mpr (by assumption) | exact Nat.le_of_lt (by assumption) | exact Nat.le_trans (by assumption) (by decide) | omega)]; exact ⟨_, rfl⟩
    · rw [if_neg hab, Int.max_eq_left (by with_reducible first | exact Int.natCast_nonneg _ | exact z63 (by assumption) (by assumption) | exact z65 (by assumption) (by assumption) | exact zn (by assumption) | exact le5 (by assumption) (by assumption) | exact Int.ofNat_lt.mpr (by assumption) | exact Nat.le_of_lt (by assumption) | exact Nat.le_trans (by assumption) (by decide) | omega)]; exact ⟨_, rfl⟩
end
section
variable {w : World} {A : Around} {h : Heap} {sc : Addr} {vs : List Value} {ns : List Int} {t : Tok}
theorem pool_spec (B : Ok (KP w.params) h) (ar : Ar A 2) (hl : h.IsList sc vs.toArray) (hi : IntsAre vs ns) (sz : ns.length ≤ 1000) :
    Do PR w A (call (.ref 196) [.ref sc, .int 0 t] []) h fun v h' => h.StaysIn h' ∧ X3 (fun r x y => C3 (v = .ref r) (h.get? r = none) (Src h' r x y)) := by
  refine' DoDef (args := ⟨[.ref sc, .int 0 t], []⟩) (binds := [("script", .ref sc), ("k", .int 0 t)]) (l := [("k", .int 0), ("script", .ref sc)]) B ?ho ?hcd ar.room ?hb ?hloc (.cons ⟨_, rfl⟩ (.cons rfl .nil)) ?c2 ?c3 ?c4 ?c5 ?go
  case ho => (first | (with_reducible apply Mine.kp_look; (focus k_is); decide) | (with_reducible apply Mine.kp_ns; (focus k_is); decide) | kernel_rfl)
  case hcd => (first | (with_reducible apply Mine.kp_look; (focus k_is); decide) | (with_reducible apply Mine.kp_ns; (focus k_is); decide) | kernel_rfl)
  case hb => exact fun _ _ => BindsTo.of_eq rfl
  case hloc => exact locs rfl
  case c2 => rfl
  case c3 => rfl
  case c4 => rfl
  case c5 => decide
  case go =>
    intro L h1 b
    have B1 := B.keeps b.st
    have l1 := IsList_keeps hl b.st
    have lenV := ints_len hi
    refine Ds.let b Pe.int fun h2 b2 => ?_
    have l2 := IsList_keeps hl b2.st
    have B2 := B.keeps b2.st
    refine Ds.ifGo (T := fun c h' => h' = h2 ∧ c = decide ((0 : Int) < vs.toArray.size)) (P := fun h' => ∃ (cell : Int), Bd h L [("cell", .int cell), ("k", .int 0), ("script", .ref sc)] h') (Pt.cmp Cmp.lt (Pe.loc b2.lo rfl) (Pe.len B2 gl_len l2 (by first | with_reducible exact zlen (by assumption) | with_reducible exact zlenE (by assumption) (by assumption) | with_reducible exact zvs (by assumption) | with_reducible exact zvsE (by assumption) (by assumption) | (simp; omega)) (Pe.loc b2.lo rfl))) ?_ ?_ ?_
    · refine i1 fun hc => ?_
      have hpos : 0 < vs.length := by
        have : (0 : Int) < (vs.length : Int) := by first | exact of_decide_eq_true hc.symm | exact of_decide_eq_false hc.symm | simpa using hc.symm
        omega
      obtain ⟨td, ed⟩ := ints_get hi 0 _ (List.getElem?_eq_getElem (by with_reducible first | exact Int.natCast_nonneg _ | exact z63 (by assumption) (by assumption) | exact z65 (by assumption) (by assumption) | exact zn (by assumption) | exact le5 (by assumption) (by assumption) | exact Int.ofNat_lt.mpr (by assumption) | exact Nat.le_of_lt (by assumption) | exact Nat.le_trans (by assumption) (by decide) | omega))
      refine Ds.let b2 (Pe.item (d := .int ns[0]) l2 (i := 0) (by decide) (by decide) (by first | exact gi ed | exact gv ed | simpa using ed) ⟨td, rfl⟩ (Pe.loc b2.lo rfl) (Pe.loc b2.lo rfl)) fun h4 b4 => ?_
      exact Ds.nil ⟨rfl, _, b4.lo.of ⟨rfl, rfl, rfl, trivial⟩, b4.st, b4.own⟩
    · refine i1 fun hc => ?_
      exact Ds.nil ⟨rfl, 0, b2⟩
    · rintro h3 ⟨cell, b3⟩
      have B3 := B.keeps b3.st
      refine Ds.assign (P := fun v h' => h3.StaysIn h' ∧ (D.int (max cell (-1 - cell))).Is v) (DoMax B3 ar.hh gl_max (Pe.int1 B3 gl_int (Pe.loc b3.lo rfl)) (Pe.int1 B3 gl_int (Pe.sub (Pe.neg Pe.int) (Pe.loc b3.lo rfl)))) fun v h4 p => ?_
      obtain ⟨k4, hv⟩ := p
      have b0 : 0 ≤ max cell (-1 - cell) := by omega
      generalize max cell (-1 - cell) = big at hv b0
      refine ⟨h, _, .int big, b3.keeps k4, hv, fun h5 b5 _ => ?_⟩
      have B5 := B.keeps b5.st
      have m1 : IntMulOk 7919 0 := IntMulOk.of_right (intBits_le_64 (by decide) (by decide))
      have m2 : IntMulOk (7919 * 0) 0 := IntMulOk.of_right (intBits_le_64 (by decide) (by decide))
      have m3 : IntMulOk 31 0 := IntMulOk.of_right (intBits_le_64 (by decide) (by decide))
      have m4 : ∀ z : Int, IntMulOk z 48271 := fun z => IntMulOk.of_right (intBits_le_64 (by decide) (by decide))
      refine Ds.let b5 (Pe.mod (b := 2147483647) (by decide) (Pe.int1 B5 gl_int (Pe.mul (m4 _) (Pe.add (Pe.add (Pe.add (Pe.mod (b := 2147483629) (by decide) (Pe.int1 B5 gl_int (Pe.loc (d := .int big) b5.lo rfl)) Pe.int) (Pe.mul m2 (Pe.mul m1 Pe.int (Pe.loc (d := .int 0) b5.lo rfl)) (Pe.loc (d := .int 0) b5.lo rfl))) (Pe.mul m3 Pe.int (Pe.loc (d := .int 0) b5.lo rfl))) Pe.int) Pe.int)) Pe.int) fun h6 b6 => ?_
      generalize hmx : Int.fmod ((big.fmod 2147483629 + 7919 * 0 * 0 + 31 * 0 + 17) * 48271) 2147483647 = mx at b6
      have e0 : 0 ≤ mx := by rw [← hmx, Int.fmod_eq_emod_of_nonneg _ (by with_reducible first | exact Int.natCast_nonneg _ | exact z63 (by assumption) (by assumption) | exact z65 (by assumption) (by assumption) | exact zn (by assumption) | exact le5 (by assumption) (by assumption) | exact Int.ofNat_lt.mpr (by assumption) | exact Nat.le_of_lt (by assumption) | exact Nat.le_trans (by assumption) (by decide) | omega)]; exact Int.emod_nonneg _ (by with_reducible first | exact Int.natCast_nonneg _ | exact z63 (by assumption) (by assumption) | exact z65 (by assumption) (by assumption) | exact zn (by assumption) | exact le5 (by assumption) (by assumption) | exact Int.ofNat_lt.mpr (by assumption) | exact Nat.le_of_lt (by assumption) | exact Nat.le_trans (by assumption) (by decide) | omega)
      have e1 : mx < 2147483647 := by rw [← hmx, Int.fmod_eq_emod_of_nonneg _ (by with_reducible first | exact Int.natCast_nonneg _ | exact z63 (by assumption) (by assumption) | exact z65 (by assumption) (by assumption) | exact zn (by assumption) | exact le5 (by assumption) (by assumption) | exact Int.ofNat_lt.mpr (by assumption) | exact Nat.le_of_lt (by assumption) | exact Nat.le_trans (by assumption) (by decide) | omega)]; exact Int.emod_lt_of_pos _ (by with_reducible first | exact Int.natCast_nonneg _ | exact z63 (by assumption) (by assumption) | exact z65 (by assumption) (by assumption) | exact zn (by assumption) | exact le5 (by assumption) (by assumption) | exact Int.ofNat_lt.mpr (by assumption) | exact Nat.le_of_lt (by assumption) | exact Nat.le_trans (by assumption) (by decide) | omega)
      have B6 := B.keeps b6.st
      generalize hc : decide (big ≥ (10 : Int) ^ (18 : Int).toNat) = c
      have m5 : IntMulOk big (if c then 1 else 0) := IntMulOk.of_right (intBits_le_64 (by cases c <;> decide) (by cases c <;> decide))
      have z5 : 0 ≤ big * (if c then 1 else 0) := by cases c <;> simp [b0]
      refine Ds.ret (DoList (P := fun vs h' => h' = h6 ∧ ∃ t1 t2, vs = [.int (big * (if c then 1 else 0)) t1, .int mx t2]) (Args.cons (Pe.mul m5 (Pe.loc (d := .int big) b6.lo rfl) (Pe.intB B6 gl_int (Pe.to (Pe.cmp Cmp.ge (Pe.loc (d := .int big) b6.lo rfl) (Pe.pow (a := 10) (n := 18) (by decide) (by decide) (by decide) Pe.int Pe.int)) (by rw [hc])))) fun v h7 p => ?_) fun vs h7 p => ?_)
      · revert v h7 p; refine i2t fun t1 => ?_
        refine Args.cons (Pe.loc (d := .int mx) b6.lo rfl) fun v h8 p => Args.nil ?_
        revert v h8 p; refine i2t fun t2 => ?_
        exact ⟨rfl, t1, t2, rfl⟩
      · obtain ⟨rfl, t1, t2, rfl⟩ := p
        refine ⟨by show 2 ≤ sizeLine; decide, fun h8 r k8 nr zr er => ⟨fun c o e => k8 _ _ (b6.st _ _ e), r, _, _, rfl, fresh_of b6.st nr, Nat.le_trans B6.size zr, ⟨t1, t2, er.isList⟩, z5, e0, e1⟩⟩
end
end Mine
end

-- Fixed2
section
open PySem PySem.W PySem.Calls PyProof.Rows PySem.Spec PySem.SeqAt
set_option tactic.hygienic false
namespace Mine
section
variable {PR : Program} {w : World} {A : Around} {env : Env} {h : Heap} {K : Frag}
-- two that read the same are equal
theorem Do.eqSame {a b : Value} {d : PyData} {as bs : List Addr} {n : Nat} (hu : A.units + 64 < cLine) (ra : Reads h a d as) (rb : Reads h b d bs) (x : Lay n d) (hn : n ≤ 64 := by omega) : Do PR w A (compareOp .Eq a b) h fun v h' => h' = h ∧ v = .bool true := fun s Q E e q => by
  subst e
  exact eq_dataH ra rb (x.shaped hn) (x.shaped hn) hu (by rw [eqv_refl d x.1]; exact Do.now rfl q ⟨rfl, rfl⟩)
end
-- ints, whatever their tokens
theorem reads_ints {h : Heap} {a : Addr} {vs : List Value} {ns : List Int} (hl : h.IsList a vs.toArray) (hi : IntsAre vs ns) : ∃ as, Reads h (.ref a) (.list (ns.map PyData.int)) as := by
  obtain ⟨o, ho, hc, n, hd⟩ := hl
  have : ∃ as, ReadsAll h vs (ns.map PyData.int) as := by
    clear hd
    induction hi with
    | nil => exact ⟨_, ReadsAll.nil⟩
    | cons m t q ih =>
      obtain ⟨as, r⟩ := ih
      exact ⟨_, ReadsAll.cons (Reads.int _ _) r⟩
  obtain ⟨as, q⟩ := this
  exact ⟨_, reads_list_at ho hc hd (by simpa using q)⟩
section
variable {w : World} {A : Around} {h : Heap}
-- C's choices, t of them taken, all else that h0 had; the frame's one name is C's
structure Ch (P : Params) (h0 h : Heap) (L C dC DG : Addr) (t : Nat) : Prop where
  B : Ok (KP P) h
  I : X4 (fun t1 t2 tk n => Inst h C 185 dC (chEs P t1 t2 (.ref DG) (.int (t : Nat) tk)) n)
  l : ∃ vs, h.IsList DG vs.toArray ∧ IntsAre vs [5, -1]
  k : h0.StaysIn h
  lo : Lo h L [("row", .ref C)]
-- row.pick(n) as an item of a list
theorem DoPick {L : Addr} {env : Env} {np : Pos} {many t kk : Nat} {apos cp pos : Pos} {h0 : Heap} {C dC DG : Addr} (hL : env.locals = L) (ar : Ar A 2) (X : Ch w.params h0 h L C dC DG t) (hd : 254 ≤ dC) (n0 : h0.get? dC = none) (nl : dC ≠ L) (st : t ≤ 100) (sm : many ≤ 100) (hk : env.scope.kind = .function := by rfl) (hx : env.kindOf "row" = some .local := by rfl)
    {pl : Sem Bool} (he : MethodTree (.Name "row" np) "pick" apos pos [.Constant (.int many) kk cp] env pl := by with_unfolding_all rfl) (hs : starEach [.Constant (.int many) kk cp] env = (false, eval (.Constant (.int many) kk cp) env) :: starEach [] env := by rfl) :
    Do PR w A (eval (.Call (.Attribute (.Name "row" np) "pick" apos) [.Constant (.int many) kk cp] [] pos) env) h fun v h' => (∃ tk, v = .int (pickOf [5, -1] t many) tk) ∧ Ch w.params h0 h' L C dC DG (takenOf t many) := by
  obtain ⟨B, ⟨t1, t2, tk, m, I⟩, ⟨vs, l, hi⟩, k, lo⟩ := X
  subst hL
  refine DoMethodP B I om_pick rfl ke.2.2.2.2.2.2.2.2.2.2 (Pe.loc lo rfl hk hx) (Args.plain1 (he := hs) (Pe.int (i := many)) Args.plain0) (fun vs' h2 p => ?_) he hs
  revert h2 p; refine i1 fun q => ?_
  obtain ⟨v, rfl, t', rfl⟩ := q.one
  refine ⟨B, (pick_spec B ar.less hd I l hi (by decide) (by omega) (by omega)).mono ?_⟩
  rintro v h3 ⟨hv, k3, t1', t2', tk', m', e3⟩
  have hC : C ≠ dC := inst_ne I I.d
  have hD : DG ≠ dC := list_ne l I.d (by first | exact List.mem_append_left _ (.head _) | exact List.mem_append_left _ (.tail _ (.head _)) | exact List.mem_append_left _ (.tail _ (.tail _ (.head _))) | exact List.mem_append_left _ (.tail _ (.tail _ (.tail _ (.head _)))) | exact .head _ | exact .tail _ (.head _) | simp)
  exact ⟨hv, B.but k3 hd, ⟨t1', t2', tk', m', k3 _ _ hC I.o, e3⟩, ⟨vs, k3.list hD l, hi⟩, fun b o e => k3 b o (fun q => by exact no_at q n0 e) (k _ _ e), lo.at fun o e => k3 _ _ (fun q => nl q.symm) e⟩
theorem Lo.is {h : Heap} {L : Addr} {l : List (Str × D)} (x : Lo h L l) : ∃ o, h.get? L = some o := let ⟨_, ⟨o, _, _, e, _⟩, _⟩ := x; ⟨o, e⟩
theorem ne_old {h : Heap} {a b : Addr} (n : h.get? a = none) (e : ∃ o, h.get? b = some o) : a ≠ b := fun q => by
  obtain ⟨o, e⟩ := e
  exact no_at (Eq.symm q) n e
theorem DoFixed (B : Ok (KP w.params) h) (ar : Ar A 5) : Do PR w A (call (.ref 246) []) h fun v h' => v = .bool true ∧ h.StaysIn h' := by
  refine' DoDef (args := ⟨[], []⟩) (binds := []) (l := []) B ?ho ?hcd ar.room ?hb ?hloc .nil ?c2 ?c3 ?c4 ?c5 ?go
  case ho => (first | (with_reducible apply Mine.kp_look; (focus k_is); decide) | (with_reducible apply Mine.kp_ns; (focus k_is); decide) | kernel_rfl)
  case hcd => (first | (with_reducible apply Mine.kp_look; (focus k_is); decide) | (with_reducible apply Mine.kp_ns; (focus k_is); decide) | kernel_rfl)
  case hb => exact fun _ _ => BindsTo.of_eq rfl
  case hloc => exact fun y hy => nomatch hy
  case c2 => rfl
  case c3 => rfl
  case c4 => rfl
  case c5 => decide
  case go =>
    intro L h1 b
    have B1 := B.keeps b.st
    have ard : ∀ env, Ar (A.deeper env) 4 := fun env => ar.deeper
    have hold := b.lo.is
    refine Ds.assign (P := fun v h2 => X8 (fun C dC DG vs t1 t2 tk n => C8 (v = .ref C) (254 ≤ dC) (h1.get? dC = none) (h1.get? C = none) (h1.get? DG = none) (h1.StaysIn h2) (Inst h2 C 185 dC (chEs w.params t1 t2 (.ref DG) (.int 0 tk)) n) ((h2.IsList DG vs.toArray) ∧ (IntsAre vs [5, -1])))) (Do.callName (Pe.glob (d := .ref 185) B1 gl_Choices rfl) fun u h2 p => ?_) fun v h2 p => ?_
    · obtain ⟨rfl, rfl⟩ := p
      refine DoCallWith (K := KP w.params) (Callable.ofK ke_f.2.2.2.2.2.2.2.2.2.2.1) (P := fun vs h3 => X2 (fun DG ws => C5 (vs = [.ref DG]) (h2.StaysIn h3) (h2.get? DG = none) (h3.IsList DG ws.toArray) (IntsAre ws [5, -1]))) (Args.cons (P := fun v h3 => X2 (fun DG ws => C5 (v = .ref DG) (h2.StaysIn h3) (h2.get? DG = none) (h3.IsList DG ws.toArray) (IntsAre ws [5, -1]))) (DoList (P := fun vs h3 => h3 = h2 ∧ ∃ t1 t2, vs = [.int 5 t1, .int (-1) t2]) (Args.cons Pe.int fun v h3 p => ?_) fun vs h3 p => ?_) fun v h3 p => Args.nil ?_) fun vs h3 p => ?_
      · revert v h3 p; refine i2t fun t1 => ?_
        refine Args.cons (Pe.neg Pe.int) fun v h4 p => Args.nil ?_
        revert v h4 p; refine i2t fun t2 => ?_
        exact ⟨rfl, t1, t2, rfl⟩
      · obtain ⟨rfl, t1, t2, rfl⟩ := p
        exact ⟨by show 2 ≤ sizeLine; decide, fun h4 r k4 nr zr er => ⟨r, _, rfl, k4, nr, er.isList, .cons _ _ (.cons _ _ .nil)⟩⟩
      · obtain ⟨DG, ws, rfl, k3, nD, l3, hi⟩ := p
        exact ⟨DG, ws, rfl, k3, nD, l3, hi⟩
      · obtain ⟨DG, ws, rfl, k3, nD, l3, hi⟩ := p
        have B3 := B1.keeps k3
        refine ⟨B3, (make_choices B3 (ard _).less).mono ?_⟩
        rintro v h4 ⟨k4, x, dx, t1, t2, tk, n, rfl, I, hd, nx, nd⟩
        exact ⟨x, dx, DG, ws, t1, t2, tk, n, rfl, Nat.le_trans B3.size hd, fresh_of k3 nd, fresh_of k3 nx, nD, fun c o e => k4 _ _ (k3 _ _ e), I, IsList_keeps l3 k4, hi⟩
    · obtain ⟨C, dC, DG, ws, t1, t2, tk, n, rfl, hd, nd, nC, nD, k2, I, l2, hi⟩ := p
      have hC : C ≠ L := ne_old nC hold
      have hdC : dC ≠ L := ne_old nd hold
      have hDG : DG ≠ L := ne_old nD hold
      refine ⟨_, _, .ref C, b.keeps k2, rfl, fun h3 b3 s3 => ?_⟩
      have s3 := SameBut.but s3
      have X3 : Ch w.params h h3 L C dC DG 0 := ⟨B.keeps b3.st, ⟨t1, t2, tk, n, s3 _ _ hC I.o, s3 _ _ hdC I.d⟩, ⟨ws, s3.list hDG l2, hi⟩, b3.st, b3.lo⟩
      have nd0 : h.get? dC = none := fresh_of b.st nd
      refine Ds.assign (P := fun v h4 => X2 (fun r ws' => C6 (v = .ref r) (r ≠ L) (r ≠ dC) (h4.IsList r ws'.toArray) (IntsAre ws' [0, 2, 0, 3, 0]) (Ch w.params h h4 L C dC DG 3))) (DoList (P := fun vs h4 => IntsAre vs [0, 2, 0, 3, 0] ∧ vs.length = 5 ∧ Ch w.params h h4 L C dC DG 3) (Args.cons (DoPick (many := 1) rfl (ard _).less X3 hd nd0 hdC (by decide) (by decide)) fun v h4 p => ?_) fun vs h4 p => ?_) fun v h4 p => ?_
      · obtain ⟨⟨ta, rfl⟩, X⟩ := p
        refine Args.cons (DoPick (many := 3) rfl (ard _).less X hd nd0 hdC (by decide) (by decide)) fun v h5 p => ?_
        obtain ⟨⟨tb, rfl⟩, X⟩ := p
        refine Args.cons (DoPick (many := 0) rfl (ard _).less X hd nd0 hdC (by decide) (by decide)) fun v h6 p => ?_
        obtain ⟨⟨tc, rfl⟩, X⟩ := p
        refine Args.cons (DoPick (many := 4) rfl (ard _).less X hd nd0 hdC (by decide) (by decide)) fun v h7 p => ?_
        obtain ⟨⟨td, rfl⟩, X⟩ := p
        refine Args.cons (DoPick (many := 9) rfl (ard _).less X hd nd0 hdC (by decide) (by decide)) fun v h8 p => Args.nil ?_
        obtain ⟨⟨te, rfl⟩, X⟩ := p
        exact ⟨.cons _ _ (.cons _ _ (.cons _ _ (.cons _ _ (.cons _ _ .nil)))), rfl, X⟩
      · obtain ⟨hi5, h5, X⟩ := p
        refine ⟨by rw [h5]; show 5 ≤ sizeLine; decide, fun h5 r k5 nr zr er => ?_⟩
        obtain ⟨B4, ⟨u1, u2, uk, m, I4⟩, ⟨ws4, l4, hi4⟩, k4, lo4⟩ := X
        exact ⟨r, vs, rfl, ne_old nr lo4.is, ne_old nr ⟨_, I4.d⟩, er.isList, hi5, B4.keeps k5, ⟨u1, u2, uk, m, I4.keeps k5⟩, ⟨ws4, IsList_keeps l4 k5, hi4⟩, fun c o e => k5 _ _ (k4 _ _ e), lo4.keeps k5⟩
      · obtain ⟨r, ws', rfl, hrL, hrd, l4, hi5, B4, ⟨u1, u2, uk, m, I4⟩, _, k4, lo4⟩ := p
        refine ⟨h, _, .ref r, ⟨lo4, k4, b.own⟩, rfl, fun h5 b5 s5 => ?_⟩
        have s5 := SameBut.but s5
        have B5 := B.keeps b5.st
        have I5 : Inst h5 C 185 dC _ m := ⟨s5 _ _ hC I4.o, s5 _ _ hdC I4.d⟩
        have l5 := s5.list hrL l4
        refine Ds.ret (Do.mono (DoAnd (P := fun c h' => c = true ∧ h5.StaysIn h') (R := fun c h' => c = true ∧ h5.StaysIn h') (Do.cmp (P := fun v h' => h' = h5 ∧ (D.ref r).Is v) (P2 := fun a v h' => a = .ref r ∧ h5.StaysIn h' ∧ X2 (fun q us => C3 (v = .ref q) (h'.IsList q us.toArray) (IntsAre us [0, 2, 0, 3, 0]))) (Pe.loc (d := .ref r) b5.lo rfl) (fun a h6 p => ?_) fun a c h6 p => ?_) (fun h6 p => ?_) fun h6 p => ?_) ?_)
        · obtain ⟨rfl, rfl⟩ := p
          refine DoList (P := fun vs h7 => h7 = h6 ∧ vs.length = 5 ∧ IntsAre vs [0, 2, 0, 3, 0]) (Args.cons Pe.int fun v h7 p => ?_) fun vs h7 p => ?_
          · revert v h7 p; refine i2t fun t1 => ?_
            refine Args.cons Pe.int fun v h8 p => ?_
            revert v h8 p; refine i2t fun t2 => ?_
            refine Args.cons Pe.int fun v h8 p => ?_
            revert v h8 p; refine i2t fun t3 => ?_
            refine Args.cons Pe.int fun v h8 p => ?_
            revert v h8 p; refine i2t fun t4 => ?_
            refine Args.cons Pe.int fun v h8 p => Args.nil ?_
            revert v h8 p; refine i2t fun t5 => ?_
            exact ⟨rfl, rfl, .cons _ _ (.cons _ _ (.cons _ _ (.cons _ _ (.cons _ _ .nil))))⟩
          · obtain ⟨rfl, hz, hi7⟩ := p
            exact ⟨by rw [hz]; show 5 ≤ sizeLine; decide, fun h8 q k8 nq zq eq => ⟨rfl, k8, q, vs, rfl, eq.isList, hi7⟩⟩
        · obtain ⟨rfl, k6, q, us, rfl, lq, hq⟩ := p
          obtain ⟨as, ra⟩ := reads_ints (IsList_keeps l5 k6) hi5
          obtain ⟨bs, rb⟩ := reads_ints lq hq
          refine (Do.eqSame (n := 1) (show A.units + 3 + 64 < cLine from Nat.lt_of_le_of_lt (Nat.add_le_add_right (Nat.add_le_add_left (by decide) _) 64) ar.un) ra rb (Lay.list fun x hx => ?_)).mono ?_
          · obtain ⟨z, _, rfl⟩ := List.mem_map.mp hx
            exact Lay.int
          · refine i2 ?_
            exact ⟨_, rfl, rfl, k6⟩
        · obtain ⟨-, k6⟩ := p
          refine (Pe.cmp Cmp.eq (Pe.attr (d := .int 3) (B5.keeps k6) (I5.keeps k6) oa_185_taken rfl ⟨_, rfl⟩ (Pe.loc (b5.lo.keeps k6) rfl)) Pe.int).mono ?_
          refine i2 ?_
          exact ⟨_, rfl, by decide, k6⟩
        · cases p.1
        · rintro v h6 ⟨c, rfl, rfl, k6⟩
          exact ⟨rfl, fun c o e => k6 _ _ (b5.st _ _ e)⟩
end
end Mine
end

-- Law
section
open PySem PySem.W PySem.Calls PyProof.Rows PySem.Spec PySem.SeqAt
set_option tactic.hygienic false
namespace Mine
theorem lookup_back {a : Nat} {o : Obj} : ∀ {l : List (Nat × Obj)}, List.lookup a (l.filter fun p => p.1 != 229) = some o → List.lookup a l = some o := fun {l} e => by
  by_cases h : (a != 229) = true
  · rwa [lookup_filter h] at e
  · have : a = 229 := by simpa using h
    subst this
    exact no_one (lookup_out) e
theorem k_small {P : Params} : (hd.heap_242 P).all (fun p => decide (p.1 < 254)) = true := by kernel_rfl
theorem tab_start {P : Params} : List.lookup 229 (hd.heap_242 P) = some (tabObj #[]) := by kernel_rfl
theorem ok_start {w : World} {h : Heap} {p : Program} {loose : List Str} {mean : ExcName → Option Value} {mg mb : Str → Option Value} (X : (hd.heap_242 w.params).In h) (T : Top p loose mean mg mb h) : Ok (KP w.params) h := by
  refine ⟨fun a o e => X a o (lookup_back e), ⟨_, _, _, _, topRead_of T⟩, fun a o e => ?_, ?_⟩
  · have hm := mem_of_lookupK (lookup_back (a := a) (o := o) e)
    simpa using List.all_eq_true.mp k_small _ hm
  · obtain ⟨o, e⟩ : ∃ o, List.lookup 253 (KP w.params) = some o := ⟨_, by (first | (with_reducible apply Mine.kp_look; (focus k_is); decide) | (with_reducible apply Mine.kp_ns; (focus k_is); decide) | kernel_rfl)⟩
    exact ⟨o, X _ _ (lookup_back e)⟩
theorem Do.elim {α : Type} {PR : Program} {w : World} {A : Around} {t : Sem α} {h : Heap} {P : α → Heap → Prop} {s : Shared} {Q : α → Shared → Prop} {E : Value → Shared → Prop} (d : Do PR w A t h P) (q : ∀ v h' tk, P v h' → Q v { s with heap := h', toks := tk }) (e : s.heap = h := by rfl) : wpAny (model PR w) A t Q E s := d s Q E e q
theorem lo_one {h₀ h : Heap} {L sc : Addr} {x : Str} (F : Fr h₀ L h fun y => List.lookup y [(x, Value.ref sc)].reverse) : Lo h L [(x, .ref sc)] := ⟨_, F.ns, fun y d e => by
  simp only [List.reverse_cons, List.reverse_nil, List.nil_append]
  rw [List.lookup_cons] at e ⊢
  cases hb : y == x with
  | true => rw [hb] at e; cases e; exact ⟨_, rfl, rfl⟩
  | false => rw [hb] at e; cases e⟩
-- all that stood ahead of the call, but the table; and the call's frame
noncomputable def oldZ (h : Heap) : List Addr := ((List.range h.objs.size).filter fun b => b != 229 && (h.get? b).isSome) ++ [h.objs.size]
section
variable {h h' : Heap}
theorem oldZ_mem {b : Addr} {o : Obj} (e : h.get? b = some o) (n : b ≠ 229) : b ∈ oldZ h := by
  refine List.mem_append_left _ (List.mem_filter.mpr ⟨List.mem_range.mpr (Heap.lt_size e), ?_⟩)
  rw [e]
  simpa using n
theorem oldZ_in (k : h.StaysIn h') (hl : ∃ o, h'.get? h.objs.size = some o) : ∀ b ∈ oldZ h, ∃ o, h'.get? b = some o := fun b hb => by
  rcases List.mem_append.mp hb with q | q
  · have := (List.mem_filter.mp q).2
    rw [Bool.and_eq_true] at this
    obtain ⟨o, e⟩ := Option.isSome_iff_exists.mp this.2
    exact ⟨o, k _ _ e⟩
  · rw [List.mem_singleton.mp q]; exact hl
theorem oldZ_nt (zi : 254 ≤ h.objs.size) : 229 ∉ oldZ h := fun hb => by
  rcases List.mem_append.mp hb with q | q
  · have := (List.mem_filter.mp q).2
    simp at this
  · rw [← List.mem_singleton.mp q] at zi
    exact absurd zi (by decide)
theorem tab_empty {W : List Addr} (e : h.get? 229 = some (tabObj #[])) (nt : 229 ∉ W) : TabS (hideAll h W) := ⟨#[], hideAll_get _ e nt, trivial, fun pos cv q => by simp [codeAmong] at q⟩
end
end Mine
end

-- Join
section
open PySem PySem.W PySem.Calls PyProof.Rows PySem.Spec PySem.SeqAt
set_option maxHeartbeats 8000000
set_option tactic.hygienic false
namespace Mine
theorem holds : PySem.Challenge.rw_on0006_01.Holds := by
  refine Mine.hd ?_
  k_fill
  intro w s₀ s₁ mg mb G Y fa o pm cd doc dV kV ho hd hcd hD hmg hg args vals as LD hpre hlay hrd hwl hlo
  have KX0 : (Mine.hd.heap_242 w.params).In s₀.heap := (PySem.W.X.z_facts (fun _ => by kernel_rfl) Y).2.1
  have KX : (Mine.hd.heap_242 w.params).In s₁.heap := fun b o e => Laid.keeps LD b o (KX0 b o e)
  have X := (Ground.X G).1
  have V := (Ground.X G).2
  refine Ground.open G ?_
  intro T B D TE TW
  try (refine guard_noD D (by decide +kernel) ?_; clear D)
  have B0 : Ok (KP w.params) s₁.heap := ok_start KX T
  have e229 : s₁.heap.get? 229 = some (tabObj #[]) := KX _ _ tab_start
  have hT9 : TabsAt [(233, 229)] s₁.heap := fun q hq => by
    rw [List.mem_singleton.mp hq]
    exact ⟨codeHd B0.k, e229⟩
  clear hmg
  wrow_args hpre hlay hrd hwl hlo
  all_goals (
    first | refine callC_kw (enter_call ?_) | refine enter_call ?_
    w_top on
    refine kn_post hT9 (fun _ _ => rfl) ?_
    w_call any ho hd hcd hD T F)
  rename Heap.IsList _ _ _ => hL
  rename IntsAre _ _ => hI
  rename Fr _ _ _ _ => F
  rename ¬ _ < _ => hcond
  rename List Int => ns
  rename Heap => h₁
  rename List Value => vs
  rename Addr => sc
  dsimp only
  have B1 := B0.keeps F.keep
  have zi : 254 ≤ s₁.heap.objs.size := B0.size
  have lo1 := lo_one F
  have lL : h₁.IsList sc vs.toArray := IsList_keeps hL F.keep
  have hlen : ns.length ≤ 63 := by omega
  have lw : ∀ env, Lw (callerA.deeper env) 12 := fun env => ⟨rfl, by show 1 + 300 + 1 + 12 ≤ 400; decide, by show 4 + 3 + 8 * 12 ≤ 400; decide⟩
  refine Do.elim (P := fun f h' => f = Flow.ret (.bool true) ∧ (∀ b o, b ≠ 229 → s₁.heap.get? b = some o → h'.get? b = some o) ∧ ∃ ps, h'.get? 229 = some (tabObj ps)) ?_ ?_
  · refine Ds.ret (Do.mono (DoAnd (P := fun c h' => c = true ∧ Ok (KP w.params) h' ∧ (∀ b o, b ≠ 229 → s₁.heap.get? b = some o → h'.get? b = some o) ∧ ∃ ps, h'.get? 229 = some (tabObj ps)) (R := fun c h' => c = true ∧ (∀ b o, b ≠ 229 → s₁.heap.get? b = some o → h'.get? b = some o) ∧ ∃ ps, h'.get? 229 = some (tabObj ps)) (Do.callName (Pe.glob (d := .ref 239) B1 gl_law_drawn_right rfl) fun u h2 p => ?_) (fun h2 p => ?_) fun h2 p => ?_) ?_)
    · obtain ⟨rfl, rfl⟩ := p
      refine DoCallWith (K := KP w.params) (Callable.ofK ke_f.2.2.2.2.2.2.1) (P := fun vs h3 => h2.StaysIn h3 ∧ X3 (fun r x y => C3 (vs = [.ref r]) (h2.get? r = none) (Src h3 r x y))) (Args.cons (P := fun v h3 => h2.StaysIn h3 ∧ X3 (fun r x y => C3 (v = .ref r) (h2.get? r = none) (Src h3 r x y))) (Do.callName (Pe.glob (d := .ref 196) B1 gl_law_pool rfl) fun u h3 p => ?_) fun v h3 p => Args.nil ?_) fun vs' h3 p => ?_
      · revert u h3 p; refine i2 ?_
        refine DoCallWith (K := KP w.params) (Callable.ofK ke_f.1) (Args.plain1 (Pe.loc (d := .ref sc) lo1 rfl) (Args.plain1 Pe.int Args.plain0)) fun vs' h4 p => ?_
        revert h4 p; refine i1 fun q => ?_
        obtain ⟨v, u, rfl, rfl, t, rfl⟩ := q.two
        refine ⟨B1, (pool_spec B1 (lw _).ar.less lL hI (by with_reducible first | exact Int.natCast_nonneg _ | exact z63 (by assumption) (by assumption) | exact z65 (by assumption) (by assumption) | exact zn (by assumption) | exact le5 (by assumption) (by assumption) | exact Int.ofNat_lt.mpr (by assumption) | exact Nat.le_of_lt (by assumption) | exact Nat.le_trans (by assumption) (by decide) | omega)).mono ?_⟩
        rintro v h5 ⟨k5, r, x, y, rfl, nr, S⟩
        exact ⟨k5, r, x, y, rfl, nr, S⟩
      · obtain ⟨k3, r, x, y, rfl, nr, S3⟩ := p
        exact ⟨k3, r, x, y, rfl, nr, S3⟩
      · obtain ⟨k3, r, x, y, rfl, nr, S3⟩ := p
        have B3 := B1.keeps k3
        have lo3 := lo1.keeps k3
        have ex3 : ∃ o, h3.get? s₁.heap.objs.size = some o := let ⟨m, ⟨o, es, ep, e, _⟩, _⟩ := lo3; ⟨o, e⟩
        have k03 : s₁.heap.StaysIn h3 := fun b o e => k3 _ _ (F.keep b o e)
        have zin := oldZ_in k03 ex3
        have z1 : ∀ b ∈ oldZ s₁.heap, ∃ o, h2.get? b = some o := oldZ_in F.keep (let ⟨m, ⟨o, es, ep, e, _⟩, _⟩ := lo1; ⟨o, e⟩)
        have nrZ : r ∉ oldZ s₁.heap := fun q => by
          obtain ⟨o, e⟩ := z1 r q
          exact no_one nr e
        have nt := oldZ_nt zi
        obtain ⟨hi3, ⟨ta, tb, l3⟩, r1, r2, r3⟩ := S3
        refine ⟨B3, (drawn_spec (Z := oldZ s₁.heap) (N := s₁.heap.objs.size) B3 (lw _) rfl (FOk.nil.cons rfl rfl lo3) (fun b hb => ?_) zin nt zi (fun b hb => ?_) (Nat.le_of_lt (let ⟨o, e⟩ := ex3; Heap.lt_size e)) ⟨hi3, ⟨ta, tb, isList_hide l3 nrZ⟩, r1, r2, r3⟩ (tab_empty (k03 _ _ e229) nt)).mono ?_⟩
        · have : b = s₁.heap.objs.size := List.mem_singleton.mp hb
          rw [this]
          exact List.mem_append_right _ (List.mem_singleton.mpr rfl)
        · have : b = s₁.heap.objs.size := List.mem_singleton.mp hb
          rw [this]
          exact Nat.le_refl _
        · rintro v h4 ⟨rfl, B4, u4, ps, e4⟩
          exact ⟨_, rfl, rfl, B4, fun b o n e => (u4 b (oldZ_mem e n) o (k03 _ _ e)).2 (.inl (Heap.lt_size e)), ps, e4⟩
    · obtain ⟨-, B2, k2, ps, e2⟩ := p
      refine Do.callName (Pe.glob (d := .ref 246) B2 gl_law_fixed_right rfl) fun u h3 p => ?_
      revert u h3 p; refine i2 ?_
      refine Do.callWith0 (K := KP w.params) (first := []) B2 (Callable.ofK ke_f.2.2.2.2.2.2.2.1) ((DoFixed B2 (lw _).ar.less).mono ?_)
      rintro v h4 ⟨rfl, k4⟩
      exact ⟨_, rfl, rfl, fun b o n e => k4 _ _ (k2 b o n e), ps, k4 _ _ e2⟩
    · cases p.1
    · rintro v h2 ⟨c, rfl, rfl, k, g⟩
      exact ⟨rfl, k, g⟩
  · rintro f h' tk ⟨rfl, k, ps, e⟩
    have hp : PySem.Challenge.rw_on0006_01.row.toRowW.claim.post [ofPy (PyData.list (List.map PyData.int ns))] (WData.bool true) [ofPy (PyData.list (List.map PyData.int ns))] = true := by wrow_post
    exact ⟨⟨.inl ⟨_, _, _, rfl, fun _ => rfl, .bool true, hp, unshared_nil⟩, fun b o e => k b o (fun q => by exact no_at q (hideAll_none _ (by first | exact List.mem_append_left _ (.head _) | exact List.mem_append_left _ (.tail _ (.head _)) | exact List.mem_append_left _ (.tail _ (.tail _ (.head _))) | exact List.mem_append_left _ (.tail _ (.tail _ (.tail _ (.head _)))) | exact .head _ | exact .tail _ (.head _) | simp)) e) (of_hideAll _ e), rfl, hg⟩, ⟨ps, e⟩, trivial⟩
end Mine
end

theorem PySem.Challenge.cw_on0006_01_holds : PySem.Challenge.rw_on0006_01.Holds := by
  exact Mine.holds
