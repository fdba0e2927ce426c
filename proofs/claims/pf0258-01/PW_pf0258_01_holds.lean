import PyProof.Rows.All
import Wide.All
import OpenK.AllK
import Wide.FinOn
import PySem.Challenge.RW_pf0258_01
open PySem PySem.W PyProof.Rows
set_option Elab.async false
set_option compiler.extract_closed false
set_option maxRecDepth 100000
-- text Hd
namespace Mine
/-- the statements of the text's top that the view holds: all but the three that bind __name__ -/
def keepOf : List Stmt → List Stmt
  | [a, _, c, d, e, _, g, h, i, j, _, l, m, n, o, p, q, r, s] => [a, c, d, e, g, h, i, j, l, m, n, o, p, q, r, s]
  | l => l
def view : Program := { PySem.Challenge.rw_pf0258_01.row.prog with main := { PySem.Challenge.rw_pf0258_01.row.prog.main with body := keepOf PySem.Challenge.rw_pf0258_01.row.prog.main.body } }
section
-- the head by one check of the whole top
local macro_rules | `(tactic| o_head $H) => `(tactic| (
  refine holds_open (q := Mine.view) (loose := []) (Xt := fun s => xlAt Mine.view [] s && recOk (RowW.records (OpenRow.toRowW PySem.Challenge.rw_pf0258_01.row)) s) (XP := XL Mine.view []) (Yf := Hook.obs $H) (Ya := Hook.val $H) (YP := Hook.says $H) (N := 3244) ?hl (Hook.of $H) (Hook.keeps $H)
    (fun s e => xl_of s (Bool.and_eq_true_iff.mp e).1) XL.keeps (by rfl) (by rfl) (by rfl) (fun s e => recFacts_of (Bool.and_eq_true_iff.mp e).2) (by rfl) (by first | assumption | decide +kernel) (by decide +kernel) ⟨rfl, rfl, rfl, rfl, rfl, by decide +kernel⟩ ?hw ?hc
  (case hl => (intro w; kernel_rfl))))
set_option maxRecDepth 100000 in
set_option maxHeartbeats 8000000 in
open_top hd for PySem.Challenge.rw_pf0258_01
end
end Mine
open PySem.Calls
namespace Mine
-- text Base
/-- two addresses that differ (not for omega's eyes) -/
def NeA (a b : Addr) : Prop := @Ne Nat a b
theorem NeA.symm {a b : Addr} (h : NeA a b) : NeA b a := Ne.symm h
theorem NeA.ne {a b : Addr} (h : NeA a b) : a ≠ b := h
/-- a rank of each address: two with unlike ranks differ -/
def Rk (rk : Addr → Nat) (a : Addr) (i : Nat) : Prop := rk a = i
theorem rk_ne {rk : Addr → Nat} {a b : Addr} {i j : Nat} (h1 : Rk rk a i) (h2 : Rk rk b j) (h : Nat.beq i j = false) : a ≠ b := fun e => by
  subst e
  have : i = j := h1.symm.trans h2
  subst this
  simp at h
theorem ne_lt {a b : Addr} (h : @LT.lt Nat _ a b) : a ≠ b := Nat.ne_of_lt h
theorem ne_gt {a b : Addr} (h : @LT.lt Nat _ b a) : a ≠ b := fun e => Nat.ne_of_lt h e.symm
theorem un_ge {u a j K c : Nat} (h : u + K < c) (hk : a + j ≤ K) : u + a + j < c := by omega
theorem un_ge0 {u j K c : Nat} (h : u + K < c) (hk : j ≤ K) : u + j < c := by omega
theorem un_geZ {u K c : Nat} (h : u + K < c) : u < c := by omega
theorem ne_suc1 {a L : Nat} (h : @LT.lt Nat _ a L) : L + 1 ≠ a := fun e => by omega
theorem ne_suc2 {a L : Nat} (h : @LT.lt Nat _ a L) : a ≠ L + 1 := fun e => by omega
theorem mem1 {x0 y : Addr × Obj} {r : List (Addr × Obj)} : y ∈ x0 :: y :: r := .tail _ (.head _)
theorem mem2 {x0 x1 y : Addr × Obj} {r : List (Addr × Obj)} : y ∈ x0 :: x1 :: y :: r := .tail _ (.tail _ (.head _))
theorem mem3 {x0 x1 x2 y : Addr × Obj} {r : List (Addr × Obj)} : y ∈ x0 :: x1 :: x2 :: y :: r := .tail _ (.tail _ (.tail _ (.head _)))
theorem mem4 {x0 x1 x2 x3 y : Addr × Obj} {r : List (Addr × Obj)} : y ∈ x0 :: x1 :: x2 :: x3 :: y :: r := .tail _ (.tail _ (.tail _ (.tail _ (.head _))))
theorem mem5 {x0 x1 x2 x3 x4 y : Addr × Obj} {r : List (Addr × Obj)} : y ∈ x0 :: x1 :: x2 :: x3 :: x4 :: y :: r := .tail _ (.tail _ (.tail _ (.tail _ (.tail _ (.head _)))))
theorem tail6 {x0 x1 x2 x3 x4 x5 y : Addr × Obj} {r : List (Addr × Obj)} (h : y ∈ r) : y ∈ x0 :: x1 :: x2 :: x3 :: x4 :: x5 :: r := .tail _ (.tail _ (.tail _ (.tail _ (.tail _ (.tail _ h)))))
theorem all_nil {d : Addr} : ∀ q ∈ ([] : List (Addr × Obj)), q.1 ≠ d := fun _ h => nomatch h
theorem all_cons {a d : Addr} {o : Obj} {l : List (Addr × Obj)} (h : a ≠ d) (t : ∀ q ∈ l, q.1 ≠ d) : ∀ q ∈ (a, o) :: l, q.1 ≠ d := fun q hq => by
  rcases List.mem_cons.mp hq with rfl | hq
  · exact h
  · exact t q hq
theorem cj0 {g r : Prop} (h : g ∧ r) : g := h.1
theorem cj1 {x0 g r : Prop} (h : x0 ∧ g ∧ r) : g := h.2.1
theorem cj2 {x0 x1 g r : Prop} (h : x0 ∧ x1 ∧ g ∧ r) : g := h.2.2.1
theorem cj3 {x0 x1 x2 g r : Prop} (h : x0 ∧ x1 ∧ x2 ∧ g ∧ r) : g := h.2.2.2.1
theorem cj4 {x0 x1 x2 x3 g r : Prop} (h : x0 ∧ x1 ∧ x2 ∧ x3 ∧ g ∧ r) : g := h.2.2.2.2.1
theorem cj5 {x0 x1 x2 x3 x4 g r : Prop} (h : x0 ∧ x1 ∧ x2 ∧ x3 ∧ x4 ∧ g ∧ r) : g := h.2.2.2.2.2.1
theorem cj6 {x0 x1 x2 x3 x4 x5 g r : Prop} (h : x0 ∧ x1 ∧ x2 ∧ x3 ∧ x4 ∧ x5 ∧ g ∧ r) : g := h.2.2.2.2.2.2.1
theorem cj7 {x0 x1 x2 x3 x4 x5 x6 g r : Prop} (h : x0 ∧ x1 ∧ x2 ∧ x3 ∧ x4 ∧ x5 ∧ x6 ∧ g ∧ r) : g := h.2.2.2.2.2.2.2.1
theorem cj8 {x0 x1 x2 x3 x4 x5 x6 x7 g r : Prop} (h : x0 ∧ x1 ∧ x2 ∧ x3 ∧ x4 ∧ x5 ∧ x6 ∧ x7 ∧ g ∧ r) : g := h.2.2.2.2.2.2.2.2.1
theorem cj9 {x0 x1 x2 x3 x4 x5 x6 x7 x8 g r : Prop} (h : x0 ∧ x1 ∧ x2 ∧ x3 ∧ x4 ∧ x5 ∧ x6 ∧ x7 ∧ x8 ∧ g ∧ r) : g := h.2.2.2.2.2.2.2.2.2.1
theorem cj10 {x0 x1 x2 x3 x4 x5 x6 x7 x8 x9 g r : Prop} (h : x0 ∧ x1 ∧ x2 ∧ x3 ∧ x4 ∧ x5 ∧ x6 ∧ x7 ∧ x8 ∧ x9 ∧ g ∧ r) : g := h.2.2.2.2.2.2.2.2.2.2.1
theorem cj11 {x0 x1 x2 x3 x4 x5 x6 x7 x8 x9 x10 g r : Prop} (h : x0 ∧ x1 ∧ x2 ∧ x3 ∧ x4 ∧ x5 ∧ x6 ∧ x7 ∧ x8 ∧ x9 ∧ x10 ∧ g ∧ r) : g := h.2.2.2.2.2.2.2.2.2.2.2.1
theorem cj12 {x0 x1 x2 x3 x4 x5 x6 x7 x8 x9 x10 x11 g r : Prop} (h : x0 ∧ x1 ∧ x2 ∧ x3 ∧ x4 ∧ x5 ∧ x6 ∧ x7 ∧ x8 ∧ x9 ∧ x10 ∧ x11 ∧ g ∧ r) : g := h.2.2.2.2.2.2.2.2.2.2.2.2.1
theorem cj13 {x0 x1 x2 x3 x4 x5 x6 x7 x8 x9 x10 x11 x12 g r : Prop} (h : x0 ∧ x1 ∧ x2 ∧ x3 ∧ x4 ∧ x5 ∧ x6 ∧ x7 ∧ x8 ∧ x9 ∧ x10 ∧ x11 ∧ x12 ∧ g ∧ r) : g := h.2.2.2.2.2.2.2.2.2.2.2.2.2.1
theorem cj14 {x0 x1 x2 x3 x4 x5 x6 x7 x8 x9 x10 x11 x12 x13 g r : Prop} (h : x0 ∧ x1 ∧ x2 ∧ x3 ∧ x4 ∧ x5 ∧ x6 ∧ x7 ∧ x8 ∧ x9 ∧ x10 ∧ x11 ∧ x12 ∧ x13 ∧ g ∧ r) : g := h.2.2.2.2.2.2.2.2.2.2.2.2.2.2.1
theorem cj15 {x0 x1 x2 x3 x4 x5 x6 x7 x8 x9 x10 x11 x12 x13 x14 g r : Prop} (h : x0 ∧ x1 ∧ x2 ∧ x3 ∧ x4 ∧ x5 ∧ x6 ∧ x7 ∧ x8 ∧ x9 ∧ x10 ∧ x11 ∧ x12 ∧ x13 ∧ x14 ∧ g ∧ r) : g := h.2.2.2.2.2.2.2.2.2.2.2.2.2.2.2.1
theorem cj16 {x0 x1 x2 x3 x4 x5 x6 x7 x8 x9 x10 x11 x12 x13 x14 x15 g r : Prop} (h : x0 ∧ x1 ∧ x2 ∧ x3 ∧ x4 ∧ x5 ∧ x6 ∧ x7 ∧ x8 ∧ x9 ∧ x10 ∧ x11 ∧ x12 ∧ x13 ∧ x14 ∧ x15 ∧ g ∧ r) : g := h.2.2.2.2.2.2.2.2.2.2.2.2.2.2.2.2.1
theorem cj17 {x0 x1 x2 x3 x4 x5 x6 x7 x8 x9 x10 x11 x12 x13 x14 x15 x16 g r : Prop} (h : x0 ∧ x1 ∧ x2 ∧ x3 ∧ x4 ∧ x5 ∧ x6 ∧ x7 ∧ x8 ∧ x9 ∧ x10 ∧ x11 ∧ x12 ∧ x13 ∧ x14 ∧ x15 ∧ x16 ∧ g ∧ r) : g := h.2.2.2.2.2.2.2.2.2.2.2.2.2.2.2.2.2.1
theorem cj18 {x0 x1 x2 x3 x4 x5 x6 x7 x8 x9 x10 x11 x12 x13 x14 x15 x16 x17 g r : Prop} (h : x0 ∧ x1 ∧ x2 ∧ x3 ∧ x4 ∧ x5 ∧ x6 ∧ x7 ∧ x8 ∧ x9 ∧ x10 ∧ x11 ∧ x12 ∧ x13 ∧ x14 ∧ x15 ∧ x16 ∧ x17 ∧ g ∧ r) : g := h.2.2.2.2.2.2.2.2.2.2.2.2.2.2.2.2.2.2.1
theorem cj19 {x0 x1 x2 x3 x4 x5 x6 x7 x8 x9 x10 x11 x12 x13 x14 x15 x16 x17 x18 g r : Prop} (h : x0 ∧ x1 ∧ x2 ∧ x3 ∧ x4 ∧ x5 ∧ x6 ∧ x7 ∧ x8 ∧ x9 ∧ x10 ∧ x11 ∧ x12 ∧ x13 ∧ x14 ∧ x15 ∧ x16 ∧ x17 ∧ x18 ∧ g ∧ r) : g := h.2.2.2.2.2.2.2.2.2.2.2.2.2.2.2.2.2.2.2.1
theorem cj20 {x0 x1 x2 x3 x4 x5 x6 x7 x8 x9 x10 x11 x12 x13 x14 x15 x16 x17 x18 x19 g r : Prop} (h : x0 ∧ x1 ∧ x2 ∧ x3 ∧ x4 ∧ x5 ∧ x6 ∧ x7 ∧ x8 ∧ x9 ∧ x10 ∧ x11 ∧ x12 ∧ x13 ∧ x14 ∧ x15 ∧ x16 ∧ x17 ∧ x18 ∧ x19 ∧ g ∧ r) : g := h.2.2.2.2.2.2.2.2.2.2.2.2.2.2.2.2.2.2.2.2.1
theorem cj21 {x0 x1 x2 x3 x4 x5 x6 x7 x8 x9 x10 x11 x12 x13 x14 x15 x16 x17 x18 x19 x20 g r : Prop} (h : x0 ∧ x1 ∧ x2 ∧ x3 ∧ x4 ∧ x5 ∧ x6 ∧ x7 ∧ x8 ∧ x9 ∧ x10 ∧ x11 ∧ x12 ∧ x13 ∧ x14 ∧ x15 ∧ x16 ∧ x17 ∧ x18 ∧ x19 ∧ x20 ∧ g ∧ r) : g := h.2.2.2.2.2.2.2.2.2.2.2.2.2.2.2.2.2.2.2.2.2.1
theorem cj22 {x0 x1 x2 x3 x4 x5 x6 x7 x8 x9 x10 x11 x12 x13 x14 x15 x16 x17 x18 x19 x20 x21 g r : Prop} (h : x0 ∧ x1 ∧ x2 ∧ x3 ∧ x4 ∧ x5 ∧ x6 ∧ x7 ∧ x8 ∧ x9 ∧ x10 ∧ x11 ∧ x12 ∧ x13 ∧ x14 ∧ x15 ∧ x16 ∧ x17 ∧ x18 ∧ x19 ∧ x20 ∧ x21 ∧ g ∧ r) : g := h.2.2.2.2.2.2.2.2.2.2.2.2.2.2.2.2.2.2.2.2.2.2.1
theorem cj23 {x0 x1 x2 x3 x4 x5 x6 x7 x8 x9 x10 x11 x12 x13 x14 x15 x16 x17 x18 x19 x20 x21 x22 g r : Prop} (h : x0 ∧ x1 ∧ x2 ∧ x3 ∧ x4 ∧ x5 ∧ x6 ∧ x7 ∧ x8 ∧ x9 ∧ x10 ∧ x11 ∧ x12 ∧ x13 ∧ x14 ∧ x15 ∧ x16 ∧ x17 ∧ x18 ∧ x19 ∧ x20 ∧ x21 ∧ x22 ∧ g ∧ r) : g := h.2.2.2.2.2.2.2.2.2.2.2.2.2.2.2.2.2.2.2.2.2.2.2.1
theorem cj24 {x0 x1 x2 x3 x4 x5 x6 x7 x8 x9 x10 x11 x12 x13 x14 x15 x16 x17 x18 x19 x20 x21 x22 x23 g r : Prop} (h : x0 ∧ x1 ∧ x2 ∧ x3 ∧ x4 ∧ x5 ∧ x6 ∧ x7 ∧ x8 ∧ x9 ∧ x10 ∧ x11 ∧ x12 ∧ x13 ∧ x14 ∧ x15 ∧ x16 ∧ x17 ∧ x18 ∧ x19 ∧ x20 ∧ x21 ∧ x22 ∧ x23 ∧ g ∧ r) : g := h.2.2.2.2.2.2.2.2.2.2.2.2.2.2.2.2.2.2.2.2.2.2.2.2.1
theorem cj25 {x0 x1 x2 x3 x4 x5 x6 x7 x8 x9 x10 x11 x12 x13 x14 x15 x16 x17 x18 x19 x20 x21 x22 x23 x24 g r : Prop} (h : x0 ∧ x1 ∧ x2 ∧ x3 ∧ x4 ∧ x5 ∧ x6 ∧ x7 ∧ x8 ∧ x9 ∧ x10 ∧ x11 ∧ x12 ∧ x13 ∧ x14 ∧ x15 ∧ x16 ∧ x17 ∧ x18 ∧ x19 ∧ x20 ∧ x21 ∧ x22 ∧ x23 ∧ x24 ∧ g ∧ r) : g := h.2.2.2.2.2.2.2.2.2.2.2.2.2.2.2.2.2.2.2.2.2.2.2.2.2.1
theorem cj26 {x0 x1 x2 x3 x4 x5 x6 x7 x8 x9 x10 x11 x12 x13 x14 x15 x16 x17 x18 x19 x20 x21 x22 x23 x24 x25 g r : Prop} (h : x0 ∧ x1 ∧ x2 ∧ x3 ∧ x4 ∧ x5 ∧ x6 ∧ x7 ∧ x8 ∧ x9 ∧ x10 ∧ x11 ∧ x12 ∧ x13 ∧ x14 ∧ x15 ∧ x16 ∧ x17 ∧ x18 ∧ x19 ∧ x20 ∧ x21 ∧ x22 ∧ x23 ∧ x24 ∧ x25 ∧ g ∧ r) : g := h.2.2.2.2.2.2.2.2.2.2.2.2.2.2.2.2.2.2.2.2.2.2.2.2.2.2.1
theorem cj27 {x0 x1 x2 x3 x4 x5 x6 x7 x8 x9 x10 x11 x12 x13 x14 x15 x16 x17 x18 x19 x20 x21 x22 x23 x24 x25 x26 g r : Prop} (h : x0 ∧ x1 ∧ x2 ∧ x3 ∧ x4 ∧ x5 ∧ x6 ∧ x7 ∧ x8 ∧ x9 ∧ x10 ∧ x11 ∧ x12 ∧ x13 ∧ x14 ∧ x15 ∧ x16 ∧ x17 ∧ x18 ∧ x19 ∧ x20 ∧ x21 ∧ x22 ∧ x23 ∧ x24 ∧ x25 ∧ x26 ∧ g ∧ r) : g := h.2.2.2.2.2.2.2.2.2.2.2.2.2.2.2.2.2.2.2.2.2.2.2.2.2.2.2.1
theorem cj28 {x0 x1 x2 x3 x4 x5 x6 x7 x8 x9 x10 x11 x12 x13 x14 x15 x16 x17 x18 x19 x20 x21 x22 x23 x24 x25 x26 x27 g r : Prop} (h : x0 ∧ x1 ∧ x2 ∧ x3 ∧ x4 ∧ x5 ∧ x6 ∧ x7 ∧ x8 ∧ x9 ∧ x10 ∧ x11 ∧ x12 ∧ x13 ∧ x14 ∧ x15 ∧ x16 ∧ x17 ∧ x18 ∧ x19 ∧ x20 ∧ x21 ∧ x22 ∧ x23 ∧ x24 ∧ x25 ∧ x26 ∧ x27 ∧ g ∧ r) : g := h.2.2.2.2.2.2.2.2.2.2.2.2.2.2.2.2.2.2.2.2.2.2.2.2.2.2.2.2.1
theorem cj29 {x0 x1 x2 x3 x4 x5 x6 x7 x8 x9 x10 x11 x12 x13 x14 x15 x16 x17 x18 x19 x20 x21 x22 x23 x24 x25 x26 x27 x28 g r : Prop} (h : x0 ∧ x1 ∧ x2 ∧ x3 ∧ x4 ∧ x5 ∧ x6 ∧ x7 ∧ x8 ∧ x9 ∧ x10 ∧ x11 ∧ x12 ∧ x13 ∧ x14 ∧ x15 ∧ x16 ∧ x17 ∧ x18 ∧ x19 ∧ x20 ∧ x21 ∧ x22 ∧ x23 ∧ x24 ∧ x25 ∧ x26 ∧ x27 ∧ x28 ∧ g ∧ r) : g := h.2.2.2.2.2.2.2.2.2.2.2.2.2.2.2.2.2.2.2.2.2.2.2.2.2.2.2.2.2.1
section
variable {prog : Program} {w : World} {K : Frag} {p : Program} {loose : List Str} {mean : ExcName → Option Value} {mg mb : Str → Option Value}
  {dp un : Nat} {gd : Option (List Code)} {cn : Str} {cs : Scope} {a : Addr} {ccd : Value} {cl : List (Str × Addr)} {outer : List Env} {A₀ : Around}
  {base h₀ : Heap} {L : Addr} {m : Str → Option Value} {s : Shared} {Q E : Value → Shared → Prop} {sub rest : List (Addr × Obj)}
  {name qual : Str} {params : Arguments} {body : List Stmt} {scope : Scope} {dV kV doc pm cdv ct oc : Value} {an od : Option Addr} {osl : Array (Option Value)}
  {f : Addr} {args : List Value} {binds : List (Str × Value)}

abbrev back (Q E : Value → Shared → Prop) : Result → Shared → Prop :=
  fun r s' => match r with | .ok (.ret v) => Q v s' | .ok _ => False | .error e => E e s'

theorem news_app {h₀ h : Heap} {L : Addr} {l r : List (Addr × Obj)} (A : News h₀ L h l) (B : News h₀ L h r) : News h₀ L h (l ++ r) :=
  fun p hp => (List.mem_append.mp hp).elim (A p) (B p)

theorem news_cons_app {h₀ h : Heap} {L : Addr} {x : Addr × Obj} {l r : List (Addr × Obj)} (A : News h₀ L h (x :: l)) (B : News h₀ L h r) : News h₀ L h (x :: (l ++ r)) := news_app A B

/-- the end of a called def: what the caller takes over -/
def Out (h₀ : Heap) (L : Addr) (m : Str → Option Value) (g : Heap) (Q : Value → Shared → Prop) (v : Value) (s' : Shared) : Prop :=
  ∃ L' m' news', Fr g L' s'.heap m' ∧ News g L' s'.heap news' ∧ (Fr h₀ L s'.heap m → News h₀ L s'.heap news' → Q v s')
theorem Out.leave {h₀ g : Heap} {L : Addr} {m : Str → Option Value} {Q E : Value → Shared → Prop} {v : Value} {s' : Shared} (o : Out h₀ L m g Q v s') : LeaveK h₀ L m g (back Q E) v s' := o
theorem out_ {h₀ g : Heap} {L L' : Addr} {m m' : Str → Option Value} {news' : List (Addr × Obj)} {Q : Value → Shared → Prop} {v : Value} {s' : Shared} (F' : Fr g L' s'.heap m') (N' : News g L' s'.heap news')
    (k : Fr h₀ L s'.heap m → News h₀ L s'.heap news' → Q v s') : Out h₀ L m g Q v s' := ⟨L', m', news', F', N', k⟩

/-- a call of a def of the text: `sub` goes with it, `rest` stands still -/
theorem call_sub (B : Below A₀ base outer h₀) (F : Fr h₀ L s.heap m) (X : K.In h₀) (T : Top p loose mean mg mb h₀) (hk : cs.kind = .function)
    (N : News h₀ L s.heap (sub ++ rest)) (hoff : ∀ p ∈ sub, ∀ q ∈ rest, q.1 ≠ p.1)
    (ho : K.lookup f = some ⟨oc, od, .func (fnOf name qual params body scope dV kV doc pm an cdv ct), osl⟩) (hcd : codeIn K cdv qual = true) (hroom : dp < recursionLimit)
    (hbind : BindsTo s (fnOf name qual params body scope dV kV doc pm an cdv ct) ⟨args, []⟩ binds) (hloc : ∀ y ∈ binds, scope.names.lookup y.1 = some .local)
    (h : ∀ g L' h₁, Fr h₀ L g m → (∀ p ∈ rest, g.get? p.1 = some p.2) → (∀ h' m', Fr g L' h' m' → News h₀ L h' rest) → (∀ p ∈ sub ++ rest, p.1 < L') →
      Fr g L' h₁ (fun y => binds.reverse.lookup y) → News g L' h₁ sub → Below (ktrTop dp un gd cn cs L a ccd cl outer) base (envX cn cs L a ccd cl :: outer) g → K.In g → Top p loose mean mg mb g →
      wpAny (model prog w) ((ktrTop dp un gd cn cs L a ccd cl outer).deeper (envOf qual scope L' f cdv)) (execs body (envOf qual scope L' f cdv))
        (fun fl s' => Out h₀ L m g Q (match fl with | .ret v => v | _ => .none) s')
        (fun e s' => wpAny (model prog w) ((ktrTop dp un gd cn cs L a ccd cl outer).deeper (envOf qual scope L' f cdv)) (leaving (envOf qual scope L' f cdv) e) (fun _ s'' => E e s'') (fun e' s'' => E e' s'') s')
        { s with heap := h₁, toks := s.toks + binds.length })
    (hco : scope.isCoroutine = false) (hgen : scope.isGenerator = false) (hks : scope.kind = .function) (hcell : ∀ x ∈ scope.names, x.2 ≠ .cell) :
    wpAny (model prog w) (ktrTop dp un gd cn cs L a ccd cl outer) (call (.ref f) args) Q E s := by
  have Ns : News h₀ L s.heap sub := fun p hp => N p (List.mem_append_left _ hp)
  obtain ⟨FG, BG, st, lv⟩ := groundX (R := back Q E) (A := ktrTop dp un gd cn cs L a ccd cl outer) (env := envX cn cs L a ccd cl) B F Ns rfl rfl hk
  refine wpAny_call (codeAny_call_def (fd := fnX name qual params body scope [] dV kV doc pm an cdv ct) (body := body) (binds := binds) hroom ((X.keeps F.keep) _ _ ho) rfl (T.nolimit.keeps F.keep) (codeRec_of (X.keeps F.keep) hcd) rfl hbind hcell hloc (fun h₁ hns hk₁ => ?_) hco hgen hks)
  have hrest : ∀ p ∈ rest, (hideAll s.heap (sub.map (·.1))).get? p.1 = some p.2 := fun p hp => hideAll_get _ (N p (List.mem_append_right _ hp)).1 fun q => by
    obtain ⟨r, hr, e⟩ := List.mem_map.mp q
    exact hoff r hr p hp e.symm
  exact wpAny_mono (h _ s.heap.objs.size h₁ FG hrest (fun h' m' F' q hq => ⟨F'.keep _ _ (hrest q hq), (N q (List.mem_append_right _ hq)).2⟩) (fun q hq => Heap.lt_size (N q hq).1)
    ⟨hns, fun b o e => hk₁ b o (of_hideAll _ e), Nat.le_of_eq (hideAll_size _ _)⟩
    (fun q hq => ⟨hk₁ _ _ (Ns q hq).1, Nat.ne_of_lt (Heap.lt_size (Ns q hq).1), hideAll_none _ (List.mem_map_of_mem hq)⟩) BG (X.keeps st) (T.keeps st))
    (fun fl s' hl => lv _ _ (Out.leave hl)) fun _ _ y => y

/-- the same where the def's block has cells -/
theorem call_subC (B : Below A₀ base outer h₀) (F : Fr h₀ L s.heap m) (X : K.In h₀) (T : Top p loose mean mg mb h₀) (hk : cs.kind = .function)
    (N : News h₀ L s.heap (sub ++ rest)) (hoff : ∀ p ∈ sub, ∀ q ∈ rest, q.1 ≠ p.1)
    (ho : K.lookup f = some ⟨oc, od, .func (fnOf name qual params body scope dV kV doc pm an cdv ct), osl⟩) (hcd : codeIn K cdv qual = true) (hroom : dp < recursionLimit)
    (hbind : BindsTo s (fnOf name qual params body scope dV kV doc pm an cdv ct) ⟨args, []⟩ binds)
    (hkind : (binds.all fun y => scope.names.lookup y.1 == some .local || scope.names.lookup y.1 == some .cell) = true) (hnd : ((cellsFrom 0 scope.names []).map (·.1)).Nodup)
    (h : ∀ g L' h₁ tk cells, Fr h₀ L g m → (∀ p ∈ rest, g.get? p.1 = some p.2) → (∀ h' m', Fr g L' h' m' → News h₀ L h' rest) → (∀ p ∈ sub ++ rest, p.1 < L') →
      Fr g L' h₁ (bindL (envOfC qual scope L' f cdv).kindOf binds fun _ => none) → News g L' h₁ (cells ++ sub) →
      CellsAre (bindC (envOfC qual scope L' f cdv).kindOf binds fun _ => none) (cellsFrom (L' + 1) scope.names []) cells →
      Below (ktrTop dp un gd cn cs L a ccd cl outer) base (envX cn cs L a ccd cl :: outer) g → K.In g → Top p loose mean mg mb g →
      wpAny (model prog w) ((ktrTop dp un gd cn cs L a ccd cl outer).deeper (envOfC qual scope L' f cdv)) (execs body (envOfC qual scope L' f cdv))
        (fun fl s' => Out h₀ L m g Q (match fl with | .ret v => v | _ => .none) s')
        (fun e s' => wpAny (model prog w) ((ktrTop dp un gd cn cs L a ccd cl outer).deeper (envOfC qual scope L' f cdv)) (leaving (envOfC qual scope L' f cdv) e) (fun _ s'' => E e s'') (fun e' s'' => E e' s'') s')
        { s with heap := h₁, toks := tk })
    (hco : scope.isCoroutine = false) (hgen : scope.isGenerator = false) (hks : scope.kind = .function) :
    wpAny (model prog w) (ktrTop dp un gd cn cs L a ccd cl outer) (call (.ref f) args) Q E s := by
  have Ns : News h₀ L s.heap sub := fun p hp => N p (List.mem_append_left _ hp)
  obtain ⟨FG, BG, st, lv⟩ := groundX (R := back Q E) (A := ktrTop dp un gd cn cs L a ccd cl outer) (env := envX cn cs L a ccd cl) B F Ns rfl rfl hk
  have hrest : ∀ p ∈ rest, (hideAll s.heap (sub.map (·.1))).get? p.1 = some p.2 := fun p hp => hideAll_get _ (N p (List.mem_append_right _ hp)).1 fun q => by
    obtain ⟨r, hr, e⟩ := List.mem_map.mp q
    exact hoff r hr p hp e.symm
  refine wpAny_call (codeAny_call_function hroom ((X.keeps F.keep) _ _ ho) rfl hco hgen rfl (codeRec_of (X.keeps F.keep) hcd) (hbind _ _ _ _ ?_))
  refine wpAny_newFunctionEnv_cells hks (kindsX hkind _) fun env' he s' x => ?_
  subst he
  refine ⟨(T.nolimit.keeps F.keep).keeps x.toInCall.keep, codeAny_func ?_⟩
  obtain ⟨h₁, tk, rfl, _⟩ := x.done
  have hk₁ := x.toInCall.keep
  obtain ⟨cells, NC, Y⟩ := Cl.news (h₀ := s.heap) (Nat.le_refl _) fun n c hm => ⟨x.cell n c (lookup_of_mem_nodup (cellsFrom_names scope.names 0 (s.heap.objs.size + 1) [] [] rfl ▸ hnd) hm), x.above n c hm⟩
  refine wpAny_mono (h _ s.heap.objs.size h₁ tk cells FG hrest (fun h' m' F' q hq => ⟨F'.keep _ _ (hrest q hq), (N q (List.mem_append_right _ hq)).2⟩) (fun q hq => Heap.lt_size (N q hq).1)
    ⟨x.toInCall.ns, fun b o e => hk₁ b o (of_hideAll _ e), Nat.le_of_eq (hideAll_size _ _)⟩ (fun q hq => ?_) Y BG (X.keeps st) (T.keeps st)) (fun fl s' hl => lv _ _ (Out.leave hl)) fun _ _ y => y
  rcases List.mem_append.mp hq with hq | hq
  · refine ⟨(NC q hq).1, (NC q hq).2.1, ?_⟩
    cases e : (hideAll s.heap (sub.map (·.1))).get? q.1 with
    | none => rfl
    | some o => have := of_hideAll _ e; rw [(NC q hq).2.2] at this; cases this
  · exact ⟨hk₁ _ _ (Ns q hq).1, Nat.ne_of_lt (Heap.lt_size (Ns q hq).1), hideAll_none _ (List.mem_map_of_mem hq)⟩
end
/-- the count of tokens is of no account to what follows -/
theorem gen_toks {prog : Program} {w : World} {A : Around} {α : Type} {t : Sem α} {Q : α → Shared → Prop} {E : Value → Shared → Prop} {hp : Heap} {gn : Array GenState} {dr : Drawn} {n : Nat} {os : OsState} (h : ∀ k, wpAny (model prog w) A t Q E (Shared.mk hp gn dr k os)) :
    wpAny (model prog w) A t Q E (Shared.mk hp gn dr (n + 1 + 1) os) := h _
-- text Rules
theorem paired_same {l₁ l₂ : List Value} (h : Paired (fun v y => y = v) l₁ l₂) : l₂ = l₁ := by
  induction h with
  | nil => rfl
  | cons e _ ih => rw [e, ih]
def pzV (pz : Int → Bool) : Value → Bool
  | .int k _ => pz k
  | _ => false
theorem ints_filter {pz : Int → Bool} {vs : List Value} {ks : List Int} (h : IntsAre vs ks) : IntsAre (vs.filter (pzV pz)) (ks.filter pz) := by
  induction h with
  | nil => exact .nil
  | cons n t h ih =>
    by_cases hp : pz n = true
    · rw [List.filter_cons_of_pos (show pzV pz (.int n t) = true from hp), List.filter_cons_of_pos hp]; exact .cons n t ih
    · rw [List.filter_cons_of_neg (show ¬ pzV pz (.int n t) = true from hp), List.filter_cons_of_neg hp]; exact ih
theorem ints_of {vs : List Value} {ks : List Int} (hl : vs.length = ks.length) (h : ∀ (j : Nat) v, vs[j]? = some v → ∃ k t, ks[j]? = some k ∧ v = .int k t) : IntsAre vs ks := by
  induction vs generalizing ks with
  | nil => cases ks with
    | nil => exact .nil
    | cons _ _ => simp at hl
  | cons v r ih => cases ks with
    | nil => simp at hl
    | cons k ks =>
      obtain ⟨k', t, e, rfl⟩ := h 0 v rfl
      simp at e; subst e
      exact .cons _ _ (ih (by simpa using hl) fun j x hx => by simpa using h (j + 1) x (by simpa using hx))

section
variable {prog : Program} {w : World} {A : Around} {E : Value → Shared → Prop} {env : Env}
/-- what a comprehension's source must give (a sign for the walk: it stops here) -/
def Src (prog : Program) (w : World) (A : Around) (env : Env) (scope : Scope) (cl : List (Str × Addr)) (x : Str) (ct : Expr) (px : Pos) (xv : Value) (Q : Value → Shared → Prop) (E : Value → Shared → Prop) (s₁ : Shared) : Prop :=
  wpAny (model prog w) A (pyIter xv) (fun it s₂ => ∃ I fp wr n P St, it = .ref I ∧ Walks prog w A I fp wr n P St ∧ n ≤ sizeLine ∧ St 0 s₂.heap ∧ (∀ b ∈ fp, b < s₂.heap.objs.size) ∧
      ∃ p F, QuietOnC prog w A env scope cl x [ct] (.Name x px) wr P p F s₂ ∧
      (∀ D h' tk ys (vs : List Value), s₂.heap.get? D = none → h'.IsList D ys → h'.PlainList D ys → vs.length = n → (∀ j v, vs[j]? = some v → P j v) → Paired F (vs.filter p) ys.toList →
        (∀ b o, b ∉ wr → s₂.heap.get? b = some o → h'.get? b = some o) → Q (.ref D) { s₂ with heap := h', toks := tk })) E s₁

/-- the end of a comprehension's test -/
def TestEnd (s₃ : Shared) (r : Bool) : Bool → Shared → Prop := fun ok s₄ => ok = r ∧ Keeps s₃ s₄
theorem testEnd {s₃ : Shared} {r ok : Bool} {tk : Nat} (h : ok = r) : TestEnd s₃ r ok { s₃ with toks := tk } := ⟨h, _, _, rfl, fun _ _ e => e⟩
end
section
variable {prog : Program} {w : World} {A : Around} {E : Value → Shared → Prop} {env : Env} {s : Shared} {scope : Scope} {cl : List (Str × Addr)} {x : Str} {ct iter : Expr} {pos px px2 : Pos} {Q : Value → Shared → Prop}
  {h₀ : Heap} {m : Str → Option Value} {news : List (Addr × Obj)}

theorem compL (hclos : closureFor scope env = pure cl) (hcell : ∀ y ∈ scope.names, y.2 ≠ .cell) (hkind : scope.kind = .function)
    (hnames : ∀ y ∈ scope.names, y.2 = .local → scope.names.lookup y.1 = some .local) (hx : scope.names.lookup x = some .local) (hs : ∀ v, foldedSetIterable iter env v = pure v)
    (h : wpAny (model prog w) A (eval iter env) (fun xv s₁ => Src prog w A env scope cl x ct px2 xv Q E s₁) E s) :
    wpAny (model prog w) A (eval (.ListComp (.Name x px2) [⟨.Name x px, iter, [ct], 0⟩] scope pos) env) Q E s := by
  rw [eval_ListComp]
  refine wpAny_comprehension_free (use := none) rfl hs hclos hkind hnames (wpAny_mono h (fun xv s₁ h₁ => wpAny_mono (h₁ : wpAny _ _ _ _ _ _) (fun it s₂ h₂ => ?_) fun _ _ e => e) fun _ _ e => e)
  obtain ⟨I, fp, wr, n, P, St, rfl, W, hsz, hst, hfp, p, F, hq, hQ⟩ := h₂
  refine comp_block_walkC (RR := fun acc C => compPost (model prog w) A E none Q acc C) W hsz p F hcell hkind hx hst hfp hq ?_
  intro D C h' tk m' ys vs hD hC hDC hn hl hpl hlen hP hF hk
  exact ⟨m', hn, fun h'' hs'' => hQ D h'' tk ys vs hD (hl.extBut hs''.extBut hDC) (hpl.extBut hs''.extBut hDC) hlen hP hF fun b o hbf e => hs''.extBut b o (by rintro rfl; rw [hC] at e; cases e) (hk b o hbf e)⟩

theorem src_walk {I : Addr} {fp wr : List Addr} {P : Nat → Value → Prop} {St : Nat → Heap → Prop} {ks : List Int} {s₂ : Shared} (W : Walks prog w A I fp wr ks.length P St) (hwr : wr = [I]) (hsz : ks.length ≤ 1000)
    (hst : St 0 s₂.heap) (hfp : ∀ b ∈ fp, b < s₂.heap.objs.size) (hP : ∀ i v, P i v → i < ks.length → ∃ k t, ks[i]? = some k ∧ v = .int k t) (hPk : ∀ i v, P i v → ∃ k t, k ∈ ks ∧ v = .int k t)
    (F : Fr h₀ env.locals s₂.heap m) (N : News h₀ env.locals s₂.heap news) (hI : h₀.get? I = none) (hIn : ∀ p ∈ news, p.1 ≠ I) (hIL : env.locals ≠ I) (pz : Int → Bool)
    (hk : scope.kind = .function) (hx : (relabel scope env).names.lookup x = some .local) (hdb : (x == ("__debug__" : Str)) = false)
    (test : ∀ C k t s₃ m₃ E', k ∈ ks → Fr h₀ env.locals s₃.heap m → News h₀ env.locals s₃.heap news → s₃.heap.Ns C m₃ → m₃ x = some (.int k t) →
      wpAny (model prog w) A (isTrue ct (compEnvC scope cl C env) (eval ct (compEnvC scope cl C env))) (TestEnd s₃ (pz k)) E' s₃)
    (fin : ∀ D h' tk vs' n', Fr h₀ env.locals h' m → News h₀ env.locals h' ((D, PySem.W.listOf vs'.toArray n') :: news) → (∀ p ∈ news, p.1 ≠ D) → IntsAre vs' (ks.filter pz) → Q (.ref D) { s₂ with heap := h', toks := tk }) :
    ∃ I' fp wr n P St, (Value.ref I) = .ref I' ∧ Walks prog w A I' fp wr n P St ∧ n ≤ sizeLine ∧ St 0 s₂.heap ∧ (∀ b ∈ fp, b < s₂.heap.objs.size) ∧
      ∃ p F, QuietOnC prog w A env scope cl x [ct] (.Name x px2) wr P p F s₂ ∧
      (∀ D h' tk ys (vs : List Value), s₂.heap.get? D = none → h'.IsList D ys → h'.PlainList D ys → vs.length = n → (∀ j v, vs[j]? = some v → P j v) → Paired F (vs.filter p) ys.toList →
        (∀ b o, b ∉ wr → s₂.heap.get? b = some o → h'.get? b = some o) → Q (.ref D) { s₂ with heap := h', toks := tk }) := by
  subst hwr
  have lift : ∀ h' : Heap, (∀ b o, b ∉ [I] → s₂.heap.get? b = some o → h'.get? b = some o) → Fr h₀ env.locals h' m ∧ News h₀ env.locals h' news := fun h' hk' => by
    obtain ⟨oL, es, ep, hL, r⟩ := F.ns
    refine ⟨⟨⟨oL, es, ep, hk' _ _ (by simpa using hIL) hL, r⟩, fun b o e => hk' b o (fun q => ?_) (F.keep b o e), F.above⟩, fun p hp => ⟨hk' _ _ (by simpa using hIn p hp) (N p hp).1, (N p hp).2⟩⟩
    rw [List.mem_singleton.mp q, hI] at e; cases e
  refine ⟨I, fp, [I], _, P, St, rfl, W, by rw [sizeLine_eq]; omega, hst, hfp, pzV pz, fun v y => y = v, ⟨?_, ?_⟩, ?_⟩
  · intro C i v s₃ m₃ E' _ hv hn hm hk' _
    obtain ⟨k, t, hkm, rfl⟩ := hPk i v hv
    obtain ⟨F₃, N₃⟩ := lift _ hk'
    exact wpAny_tests_one (test C k t s₃ m₃ E' hkm F₃ N₃ hn hm)
  · intro C i v s₃ m₃ E' _ hv _ hn hm hk' _
    exact wpAny_Name (wpAny_loadName_local hk hx hn hm ⟨rfl, _, _, rfl, fun _ _ e => e⟩) hdb
  · intro D h' tk ys vs hD hl hpl hlen hPs hF hk'
    obtain ⟨F', N'⟩ := lift _ hk'
    obtain ⟨n', hn'⟩ := hpl
    have hv : IntsAre vs ks := ints_of hlen fun j v hj => hP j v (hPs j v hj) (by rw [← hlen]; exact (List.getElem?_eq_some_iff.mp hj).1)
    have hy := paired_same hF
    have hys : ys = (vs.filter (pzV pz)).toArray := by rw [← hy]
    refine fin D h' tk (vs.filter (pzV pz)) n' F' (fun p hp => ?_) (fun p hp e => ?_) (ints_filter hv)
    · rcases List.mem_cons.mp hp with rfl | hp
      · refine ⟨by rw [hn', hys], fun e => ?_, ?_⟩
        · obtain ⟨oL, _, _, hL, _⟩ := F.ns; have e' : D = env.locals := e; rw [← e', hD] at hL; cases hL
        · cases q : h₀.get? D with
          | none => rfl
          | some o => have := F.keep _ _ q; rw [hD] at this; cases this
      · exact N' p hp
    · have := (N p hp).1; rw [e, hD] at this; cases this

theorem src_list {l : Addr} {vs : List Value} {ks : List Int} (hh : A.handled = none) (F : Fr h₀ env.locals s.heap m) (N : News h₀ env.locals s.heap news) (hl : s.heap.IsList l vs.toArray) (hi : IntsAre vs ks) (hsz : ks.length ≤ 1000) (pz : Int → Bool)
    (hk : scope.kind = .function) (hx : (relabel scope env).names.lookup x = some .local) (hdb : (x == ("__debug__" : Str)) = false)
    (test : ∀ C k t s₃ m₃ E', k ∈ ks → Fr h₀ env.locals s₃.heap m → News h₀ env.locals s₃.heap news → s₃.heap.Ns C m₃ → m₃ x = some (.int k t) →
      wpAny (model prog w) A (isTrue ct (compEnvC scope cl C env) (eval ct (compEnvC scope cl C env))) (TestEnd s₃ (pz k)) E' s₃)
    (fin : ∀ D h' tk vs' n', Fr h₀ env.locals h' m → News h₀ env.locals h' ((D, PySem.W.listOf vs'.toArray n') :: news) → (∀ p ∈ news, p.1 ≠ D) → IntsAre vs' (ks.filter pz) → Q (.ref D) { s with heap := h', toks := tk }) :
    Src prog w A env scope cl x ct px2 (.ref l) Q E s := by
  obtain ⟨ol, hol, _⟩ := id hl
  have hlt := Heap.lt_size hol
  refine wpAny_pyIter_list hl ?_
  have W := Walks.list (prog := prog) (w := w) hh s.heap.objs.size l (Nat.ne_of_lt hlt) vs.toArray
  have hlen : vs.toArray.size = ks.length := by simp [hi.length]
  rw [hlen] at W
  refine src_walk (s₂ := { s with heap := s.heap.push _ }) W rfl hsz ⟨⟨_, Heap.get?_push_size _ rfl, rfl, rfl⟩, hl.at fun o e => Heap.get?_push_of_some _ e⟩ (fun b hb => ?_) (fun i v hv _ => ?_) (fun i v hv => ?_)
    (F.push _) (fun p hp => ⟨Heap.get?_push_of_some _ (N p hp).1, (N p hp).2⟩) ?_ (fun p hp => Nat.ne_of_lt (Heap.lt_size (N p hp).1)) (Nat.ne_of_lt F.ns.lt) pz hk hx hdb test fin
  · show b < (s.heap.push _).objs.size
    rw [Heap.size_push]
    rcases List.mem_cons.mp hb with rfl | hb
    · exact Nat.lt_succ_self _
    · rw [List.mem_singleton.mp hb]; exact Nat.lt_succ_of_lt hlt
  · obtain ⟨k, t, e, h⟩ := IntsAre.at hi i v (by simpa using hv)
    exact ⟨k, t, h, e⟩
  · obtain ⟨k, t, e, h⟩ := IntsAre.at hi i v (by simpa using hv)
    exact ⟨k, t, List.mem_of_getElem? h, e⟩
  · cases q : h₀.get? s.heap.objs.size with
    | none => rfl
    | some o => exact absurd (Heap.lt_size (F.keep _ _ q)) (Nat.lt_irrefl _)

theorem src_dict {d : Addr} {kvs : List (Int × Value)} {ks : List Int} (hh : A.handled = none) (F : Fr h₀ env.locals s.heap m) (N : News h₀ env.locals s.heap news) (lo : (d == sysModules) = false) (hd : s.heap.DictOf (intKind prog w) d kvs) (hks : kvs.map (·.1) = ks) (hsz : ks.length ≤ 1000) (pz : Int → Bool)
    (hk : scope.kind = .function) (hx : (relabel scope env).names.lookup x = some .local) (hdb : (x == ("__debug__" : Str)) = false)
    (test : ∀ C k t s₃ m₃ E', k ∈ ks → Fr h₀ env.locals s₃.heap m → News h₀ env.locals s₃.heap news → s₃.heap.Ns C m₃ → m₃ x = some (.int k t) →
      wpAny (model prog w) A (isTrue ct (compEnvC scope cl C env) (eval ct (compEnvC scope cl C env))) (TestEnd s₃ (pz k)) E' s₃)
    (fin : ∀ D h' tk vs' n', Fr h₀ env.locals h' m → News h₀ env.locals h' ((D, PySem.W.listOf vs'.toArray n') :: news) → (∀ p ∈ news, p.1 ≠ D) → IntsAre vs' (ks.filter pz) → Q (.ref D) { s with heap := h', toks := tk }) :
    Src prog w A env scope cl x ct px2 (.ref d) Q E s := by
  obtain ⟨ep, hat⟩ := hd.dictAt
  have hlt := hat.lt_size
  refine wpAny_pyIter_dict lo hat ?_
  have W := Walks.dictKeys (prog := prog) (w := w) (knd := intKind prog w) hh s.heap.objs.size d (Nat.ne_of_lt hlt) kvs ep
  have hlen : kvs.length = ks.length := by rw [← hks, List.length_map]
  have W' := W
  rw [hlen] at W'
  have at_ : ∀ i v, (∃ k x, kvs[i]? = some (k, x) ∧ (intKind prog w).is k v = true) → ∃ k t, ks[i]? = some k ∧ v = .int k t := fun i v hh => by
    obtain ⟨k, y, e, hv⟩ := hh
    obtain ⟨t, rfl⟩ := Value.isInt_shape hv
    exact ⟨k, t, by rw [← hks, List.getElem?_map, e]; rfl, rfl⟩
  refine src_walk (s₂ := { s with heap := s.heap.push _ }) (P := fun i v => ∃ k x, kvs[i]? = some (k, x) ∧ (intKind prog w).is k v = true) W' rfl hsz ⟨⟨_, Heap.get?_push_size _ rfl, rfl, by rw [hlen]; rfl⟩, hat.push _⟩ (fun b hb => ?_) (fun i v hv _ => at_ i v hv) (fun i v hv => ?_)
    (F.push _) (fun p hp => ⟨Heap.get?_push_of_some _ (N p hp).1, (N p hp).2⟩) ?_ (fun p hp => Nat.ne_of_lt (Heap.lt_size (N p hp).1)) (Nat.ne_of_lt F.ns.lt) pz hk hx hdb test fin
  · show b < (s.heap.push _).objs.size
    rw [Heap.size_push]
    rcases List.mem_cons.mp hb with rfl | hb
    · exact Nat.lt_succ_self _
    · rw [List.mem_singleton.mp hb]; exact Nat.lt_succ_of_lt hlt
  · obtain ⟨k, t, h, e⟩ := at_ i v hv
    exact ⟨k, t, List.mem_of_getElem? h, e⟩
  · cases q : h₀.get? s.heap.objs.size with
    | none => rfl
    | some o => exact absurd (Heap.lt_size (F.keep _ _ q)) (Nat.lt_irrefl _)
end
-- text Rules2
abbrev By := Array UInt8

/-- a dict's pairs: the keys, and what holds of each value -/
structure DictRel (R : Int → Value → Prop) (kvs : List (Int × Value)) (ks : List Int) : Prop where
  keys : kvs.map (·.1) = ks
  vals : ∀ p ∈ kvs, R p.1 p.2
theorem DictRel.len {R : Int → Value → Prop} {kvs : List (Int × Value)} {ks : List Int} (h : DictRel R kvs ks) : kvs.length = ks.length := by rw [← h.keys, List.length_map]
theorem DictRel.at {R : Int → Value → Prop} {kvs : List (Int × Value)} {ks : List Int} (h : DictRel R kvs ks) {k : Int} (hk : k ∈ ks) : ∃ v, valueAt kvs k = some v ∧ R k v := by
  rw [← h.keys] at hk
  obtain ⟨p, hp, e⟩ := List.mem_map.mp hk
  have : (kvs.find? fun kv => decide (kv.1 = k)).isSome := by
    rw [List.find?_isSome]; exact ⟨p, hp, by simpa using e⟩
  obtain ⟨q, hq⟩ := Option.isSome_iff_exists.mp this
  have h1 := List.find?_some hq
  have h2 := List.mem_of_find?_eq_some hq
  have h3 : q.1 = k := by simpa using h1
  exact ⟨q.2, by unfold valueAt; rw [hq]; rfl, h3 ▸ h.vals q h2⟩
theorem DictRel.absent {R : Int → Value → Prop} {kvs : List (Int × Value)} {ks : List Int} (h : DictRel R kvs ks) {k : Int} (hk : k ∉ ks) : valueAt kvs k = Option.none := by
  have : kvs.find? (fun kv => decide (kv.1 = k)) = Option.none := by
    rw [List.find?_eq_none]
    intro p hp e
    exact hk (by rw [← h.keys]; exact List.mem_map.mpr ⟨p, hp, by simpa using e⟩)
  unfold valueAt; rw [this]; rfl
theorem DictRel.isSome {R : Int → Value → Prop} {kvs : List (Int × Value)} {ks : List Int} (h : DictRel R kvs ks) (k : Int) : (valueAt kvs k).isSome = decide (k ∈ ks) := by
  by_cases hk : k ∈ ks
  · obtain ⟨v, e, _⟩ := h.at hk
    rw [e]; simp [hk]
  · rw [h.absent hk]; simp [hk]
theorem DictRel.put {R : Int → Value → Prop} {kvs : List (Int × Value)} {ks : List Int} (h : DictRel R kvs ks) {k : Int} {v : Value} (hk : k ∉ ks) (hv : R k v) : DictRel R (stored kvs k v) (ks ++ [k]) := by
  have e : stored kvs k v = kvs ++ [(k, v)] := by
    unfold stored
    rw [if_neg]
    intro hh
    obtain ⟨p, hp, hpk⟩ := List.any_eq_true.mp hh
    exact hk (by rw [← h.keys]; exact List.mem_map.mpr ⟨p, hp, by simpa using hpk⟩)
  rw [e]
  refine ⟨by rw [List.map_append, h.keys]; rfl, fun p hp => ?_⟩
  rcases List.mem_append.mp hp with hp | hp
  · exact h.vals p hp
  · rw [List.mem_singleton.mp hp]; exact hv
theorem DictRel.del {R : Int → Value → Prop} {kvs : List (Int × Value)} {ks : List Int} (h : DictRel R kvs ks) (k : Int) : DictRel R (without kvs k) (ks.filter fun j => decide (j ≠ k)) := by
  refine ⟨?_, fun p hp => h.vals p (List.mem_filter.mp hp).1⟩
  rw [← h.keys]
  unfold without
  rw [List.filter_map]
  rfl
theorem DictRel.mono {R R' : Int → Value → Prop} {kvs : List (Int × Value)} {ks : List Int} (h : DictRel R kvs ks) (hr : ∀ k v, k ∈ ks → R k v → R' k v) : DictRel R' kvs ks :=
  ⟨h.keys, fun p hp => hr _ _ (by rw [← h.keys]; exact List.mem_map.mpr ⟨p, hp, rfl⟩) (h.vals p hp)⟩

inductive BysAre : List Value → List By → Prop
  | nil : BysAre [] []
  | cons (b : By) (t : Tok) {vs bs} : BysAre vs bs → BysAre (.bytes b t :: vs) (b :: bs)
theorem BysAre.length {vs : List Value} {bs : List By} (h : BysAre vs bs) : vs.length = bs.length := by induction h with
  | nil => rfl
  | cons _ _ _ ih => simp [ih]
theorem BysAre.append {vs ws : List Value} {bs cs : List By} (h : BysAre vs bs) (g : BysAre ws cs) : BysAre (vs ++ ws) (bs ++ cs) := by induction h with
  | nil => exact g
  | cons b t _ ih => exact .cons b t ih
theorem eqGives_bytes (b c : By) (t u : Tok) : MeetsSeq.EqGives (.bytes b t) (.bytes c u) (decide (b = c)) := fun _ _ _ _ _ _ h => eqBool_bytes (by
  rw [show decide (b.toList = c.toList) = decide (b = c) from by rw [decide_eq_decide]; exact ⟨fun e => Array.toList_inj.mp e, fun e => by rw [e]⟩]; exact h)
def isBy (k : By) : Value → Bool
  | .bytes b _ => decide (b = k)
  | _ => false
theorem any_isBy (k : By) {vs : List Value} {bs : List By} (h : BysAre vs bs) : vs.any (isBy k) = decide (k ∈ bs) := by
  induction h with
  | nil => rfl
  | cons b t h ih =>
    rw [List.any_cons, ih]
    show (decide (b = k) || _) = _
    rw [Bool.eq_iff_iff]
    simp only [Bool.or_eq_true, decide_eq_true_eq, List.mem_cons]
    constructor
    · rintro (e | e)
      · exact .inl e.symm
      · exact .inr e
    · rintro (e | e)
      · exact .inl e.symm
      · exact .inr e
theorem eq_isBy (k : By) (t : Tok) {vs : List Value} {bs : List By} (h : BysAre vs bs) : ∀ y, y ∈ vs → MeetsSeq.EqGives y (.bytes k t) (isBy k y) := by
  induction h with
  | nil => intro y hy; exact nomatch hy
  | cons b u h ih =>
    intro y hy
    rcases List.mem_cons.mp hy with rfl | hy
    · exact eqGives_bytes b k u t
    · exact ih y hy

section
variable {prog : Program} {w : World} {A : Around} {E : Value → Shared → Prop} {s : Shared} {h₀ : Heap} {L d l : Addr} {m : Str → Option Value} {news : List (Addr × Obj)} {g : Obj → List (Addr × Obj)} {o : Obj} {kvs : List (Int × Value)}
  {R : Int → Value → Prop} {ks : List Int} {k : Int} {t : Tok} {v : Value} {vs : List Value} {n : Nat}

theorem dict_in {Q : Value → Shared → Prop} (N : News h₀ L s.heap news) (hp : (d, o) ∈ news) (hd : o.IsDictOf (PySem.intKind prog w) kvs) (hr : DictRel R kvs ks) (lo : (d == sysModules) = false)
    (h : Q (.bool (decide (k ∈ ks))) { s with toks := s.toks + 1 }) : wpAny (model prog w) A (compareOp .In (.int k t) (.ref d)) Q E s :=
  kda_in N hp hd lo (intKind_is prog w k t) _ (hr.isSome k) h
theorem dict_item {value slice : PySem.Expr} {Q : Value → Shared → Prop} (N : News h₀ L s.heap news) (hp : (d, o) ∈ news) (hd : o.IsDictOf (PySem.intKind prog w) kvs) (hr : DictRel R kvs ks) (hk : k ∈ ks)
    (h : ∀ v, R k v → Q v { s with toks := s.toks + 1 })
    (hs : subscripted slice false (.ref d) (.int k t) = operate [.ref d, .int k t] (getItem (.ref d) (.int k t))) (hg : ∀ r, letTemporaryGo value (.ref d) r = pure ()) :
    wpAny (model prog w) A (subscriptTail value slice (.ref d) (.int k t)) Q E s := by
  obtain ⟨v, e, hv⟩ := hr.at hk
  exact kda_item N hp hd (intKind_is prog w k t) e (h v hv) hs hg
theorem dict_put {Q : Unit → Shared → Prop} (F : Fr h₀ L s.heap m) (N : News h₀ L s.heap news) (U : UpdF d o news g) (hd : o.IsDictOf (PySem.intKind prog w) kvs) (hr : DictRel R kvs ks) (hsz : ks.length ≤ 1000)
    (h : ∀ h' o', Fr h₀ L h' m → News h₀ L h' (g o') → o'.IsDictOf (PySem.intKind prog w) (stored kvs k v) → Q () { s with heap := h', toks := s.toks + 1 }) :
    wpAny (model prog w) A (setItem (.ref d) (.int k t) v) Q E s :=
  kda_set F N U hd (intKind_is prog w k t) (by rw [hr.len, sizeLine_eq]; omega) h
theorem dict_pop {more : List Value} {Q : Value → Shared → Prop} (hmore : more = [] ∨ ∃ x, more = [x]) (hargs : argsOk "dict.pop" ⟨.ref d :: .int k t :: more, []⟩) (F : Fr h₀ L s.heap m) (N : News h₀ L s.heap news) (U : UpdF d o news g)
    (hd : o.IsDictOf (PySem.intKind prog w) kvs) (hr : DictRel R kvs ks) (hk : k ∈ ks) (hsz : ks.length ≤ 1000)
    (h : ∀ h' o' v, R k v → Fr h₀ L h' m → News h₀ L h' (g o') → o'.IsDictOf (PySem.intKind prog w) (without kvs k) → Q v { s with heap := h', toks := s.toks + 1 }) :
    wpAny (model prog w) A (call (.builtin "dict.pop") (.ref d :: .int k t :: more)) Q E s := by
  obtain ⟨pre, post, rfl, hg, a, b⟩ := U.split
  have hm := N (d, o) (List.mem_append_right _ (.head _))
  obtain ⟨v, e, hv⟩ := hr.at hk
  have hD : s.heap.DictOf (PySem.intKind prog w) d kvs := Heap.dictOf_iff.mpr ⟨o, hm.1, hd⟩
  refine call_meetsIn PySem.F.slot_dict_pop hD.typeIs PySem.F.entry_dict_pop hargs (meets_dict_pop_there (PySem.intKind prog w) d (intKind_is prog w k t) more hmore rfl) ?_
  refine ⟨kvs, v, hD, by rw [hr.len, sizeLine_eq]; omega, e, fun h' hd' hs => ?_⟩
  obtain ⟨o', ho', hd''⟩ := Heap.dictOf_iff.mp hd'
  exact h h' o' v hv (F.change hs hm.2.1 hm.2.2) (hg o' ▸ N.setIn a b hs ho') hd''
theorem dict_len {Q : Value → Shared → Prop} (N : News h₀ L s.heap news) (hp : (d, o) ∈ news) (hd : o.IsDictOf (PySem.intKind prog w) kvs) (hr : DictRel R kvs ks) (lo : (d == sysModules) = false) (hsz : ks.length ≤ 1000)
    (h : Q (.int (ks.length : Int) (s.toks + 1)) { s with toks := s.toks + 1 + 1 }) : wpAny (model prog w) A (call (.builtin "len") [.ref d]) Q E s :=
  kda_len N hp hd lo (by rw [hr.len]; omega) (by rw [hr.len]; exact h)

theorem list_len {Q : Value → Shared → Prop} (N : News h₀ L s.heap news) (hp : (l, PySem.W.listOf vs.toArray n) ∈ news) (hsz : vs.length ≤ 1000)
    (h : Q (.int (vs.length : Int) (s.toks + 1)) { s with toks := s.toks + 1 + 1 }) : wpAny (model prog w) A (call (.builtin "len") [.ref l]) Q E s :=
  PyProof.Rows.len_list (items := vs.toArray) ⟨_, (N _ hp).1, rfl, n, rfl⟩ (by simp; omega) (by simpa using h)
theorem list_in_by {b : By} {bs : List By} {Q : Value → Shared → Prop} (N : News h₀ L s.heap news) (hp : (l, PySem.W.listOf vs.toArray n) ∈ news) (hb : BysAre vs bs) (h : Q (.bool (decide (b ∈ bs))) s) :
    wpAny (model prog w) A (compareOp .In (.bytes b t) (.ref l)) Q E s :=
  SeqInW.in_listW (isBy b) (fun y hy => eq_isBy b t hb y (by simpa using hy)) ⟨_, (N _ hp).1, rfl, n, rfl⟩ (by rw [← Array.any_toList, show vs.toArray.toList = vs from rfl, any_isBy b hb]; exact h)
theorem any_mem {ns : List Int} : ns.any (· == k) = decide (k ∈ ns) := by
  rw [Bool.eq_iff_iff]; simp
theorem list_in {ns : List Int} {Q : Value → Shared → Prop} (N : News h₀ L s.heap news) (hp : (l, PySem.W.listOf vs.toArray n) ∈ news) (hi : IntsAre vs ns) (h : Q (.bool (decide (k ∈ ns))) s) :
    wpAny (model prog w) A (compareOp .In (.int k t) (.ref l)) Q E s :=
  in_list_ints ⟨_, (N _ hp).1, rfl, n, rfl⟩ hi (by rw [any_mem]; exact h)
theorem list_notin {ns : List Int} {Q : Value → Shared → Prop} (N : News h₀ L s.heap news) (hp : (l, PySem.W.listOf vs.toArray n) ∈ news) (hi : IntsAre vs ns) (h : Q (.bool (!decide (k ∈ ns))) s) :
    wpAny (model prog w) A (compareOp .NotIn (.int k t) (.ref l)) Q E s :=
  notin_list_ints ⟨_, (N _ hp).1, rfl, n, rfl⟩ hi (by rw [any_mem]; exact h)
theorem list_app {Q : Value → Shared → Prop} (F : Fr h₀ L s.heap m) (N : News h₀ L s.heap news) {news' : List (Addr × Obj)} (U : Upd l (PySem.W.listOf vs.toArray n) (PySem.W.listOf (vs ++ [v]).toArray (n + 1)) news news') (hsz : vs.length ≤ 1000)
    (h : ∀ h', Fr h₀ L h' m → News h₀ L h' news' → Q .none { s with heap := h' }) : wpAny (model prog w) A (call (.builtin "list.append") [.ref l, v]) Q E s := by
  have e : (vs ++ [v]).toArray = vs.toArray.push v := by simp
  rw [e] at U
  exact append_K F N U h (by rw [sizeLine_eq]; simp; omega)
theorem eq_by {b c : By} {t u : Tok} {Q : Value → Shared → Prop} (h : Q (.bool (decide (b = c))) s) : wpAny (model prog w) A (compareOp .Eq (.bytes b t) (.bytes c u)) Q E s :=
  PySem.W.eq_bytes (by rw [show (b.toList == c.toList) = decide (b = c) from by rw [Bool.eq_iff_iff]; simp]; exact h)
theorem tuple_new {vs : List Value} {M : Model} {Q : Value → Shared → Prop} (F : Fr h₀ L s.heap m) (N : News h₀ L s.heap news)
    (h : ∀ D h', Fr h₀ L h' m → News h₀ L h' ((D, ({ cls := .type "tuple", data := .seq vs.toArray } : Obj)) :: news) → (∀ p ∈ news, p.1 < D) → @LT.lt Nat _ L D → Q (.ref D) { s with heap := h' }) (hz : vs.length ≤ 1000) : wpAny M A (newTuple vs) Q E s :=
  newTuple_N F N (fun h' F' N' => h _ h' F' N' (fun p hp => Heap.lt_size (N p hp).1) F.ns.lt) (by rw [sizeLine_eq]; omega)
end
-- text Rel
abbrev PG : Program := PySem.Challenge.rw_pf0258_01.row.prog
abbrev ent (w : World) (n : Str) (t : Tok) (v : Value) : DictEntry := ⟨PyData.keyHash w.params n, .str n t, v⟩
def Stat (h₀ : Heap) (rest : List (Addr × Obj)) (a : Addr) (o : Obj) : Prop := h₀.get? a = some o ∨ (a, o) ∈ rest
def Off (l r : List (Addr × Obj)) : Prop := ∀ p ∈ l, ∀ q ∈ r, q.1 ≠ p.1

theorem off_nl {r : List (Addr × Obj)} : Off [] r := fun _ h => nomatch h
theorem off_cons {a : Addr} {o : Obj} {l r : List (Addr × Obj)} (h : ∀ q ∈ r, q.1 ≠ a) (t : Off l r) : Off ((a, o) :: l) r := fun p hp q hq => by
  rcases List.mem_cons.mp hp with rfl | hp
  · exact h q hq
  · exact t p hp q hq
theorem nilApp {h₀ h : Heap} {L : Addr} {l : List (Addr × Obj)} (N : News h₀ L h l) : News h₀ L h (l ++ []) := by rw [List.append_nil]; exact N
theorem appNil {h₀ h : Heap} {L : Addr} {l : List (Addr × Obj)} (N : News h₀ L h (l ++ [])) : News h₀ L h l := by rw [List.append_nil] at N; exact N
theorem offNil (l : List (Addr × Obj)) : Off l [] := fun _ _ _ hq => nomatch hq

theorem news_rot {h₀ h : Heap} {L : Addr} {x : Addr × Obj} {l : List (Addr × Obj)} (N : News h₀ L h (x :: l)) : News h₀ L h (l ++ [x]) := fun p hp => N p (by simp at hp ⊢; exact hp.symm)

theorem news_ext1 {h₀ h : Heap} {L : Addr} {x : Addr × Obj} {l r : List (Addr × Obj)} (N : News h₀ L h (x :: l)) (M : News h₀ L h r) : News h₀ L h (l ++ ([x] ++ r)) := fun p hp => by
  simp only [List.mem_append, List.mem_singleton] at hp
  rcases hp with hp | hp | hp
  · exact N p (.tail _ hp)
  · exact N p (hp ▸ .head _)
  · exact M p hp
theorem news_rot2 {h₀ h : Heap} {L : Addr} {x y : Addr × Obj} {l : List (Addr × Obj)} (N : News h₀ L h (x :: y :: l)) : News h₀ L h (l ++ [x, y]) := fun p hp => N p (by
  simp only [List.mem_append, List.mem_cons, List.not_mem_nil, or_false] at hp ⊢
  rcases hp with hp | hp | hp
  · exact .inr (.inr hp)
  · exact .inl hp
  · exact .inr (.inl hp))
theorem use2 {P : Prop} {h₀ h : Heap} {L : Addr} {x y : Addr × Obj} {l : List (Addr × Obj)} (N : News h₀ L h (x :: y :: l)) (k : ∀ ext ul, ext = [x, y] → ul = l → News h₀ L h (ul ++ ext) → P) : P := k _ _ rfl rfl (news_rot2 N)
theorem news_tl {h₀ h : Heap} {L : Addr} {x : Addr × Obj} {l : List (Addr × Obj)} (N : News h₀ L h (x :: l)) : News h₀ L h l := fun p hp => N p (.tail _ hp)
theorem news_ass {h₀ h : Heap} {L : Addr} {l e r : List (Addr × Obj)} (N : News h₀ L h (l ++ e)) (M : News h₀ L h r) : News h₀ L h (l ++ (e ++ r)) := by
  rw [← List.append_assoc]; exact news_app N M

/-- the id of a number -/
abbrev cidOf (ever : List By) (k : Int) : By := ever.getD k.toNat #[]
/-- a value that is the id of a number -/
def ByR (ever : List By) (k : Int) (v : Value) : Prop := ∃ t, v = .bytes (cidOf ever k) t

/-- the issuer's fields -/
abbrev isuO (w : World) (lim asked nx : Int) (D1 E1 : Addr) (t1 t2 t3 t4 t5 t6 u1 u4 u5 : Tok) : Obj := dictOf [ent w (Str.ofString "limit") t1 (.int lim u1), ent w (Str.ofString "issued") t2 (.ref D1), ent w (Str.ofString "ever") t3 (.ref E1),
    ent w (Str.ofString "next_sequence") t4 (.int nx u4), ent w (Str.ofString "retire_prior") t5 (.int asked u5), ent w (Str.ofString "is_empty") t6 (.bool false)] 6
inductive IsuD (w : World) (lim asked nx : Int) (D1 E1 : Addr) (o : Obj) : Prop
  | mk (t1 t2 t3 t4 t5 t6 u1 u4 u5 : Tok) (h : o = isuO w lim asked nx D1 E1 t1 t2 t3 t4 t5 t6 u1 u4 u5)

inductive Isu (w : World) (I : Addr) (lim asked : Int) (mk : List Int) (ever : List By) (il : List (Addr × Obj)) : Prop
  | mk (dI D1 E1 : Addr) (od o1 : Obj) (kvs : List (Int × Value)) (evs : List Value) (n1 : Nat) (h : il = [(I, instObj 98 dI), (dI, od), (D1, o1), (E1, PySem.W.listOf (List.toArray evs) n1)]) (hD : IsuD w lim asked ever.length D1 E1 od)
    (ho : o1.IsDictOf (PySem.intKind PG w) kvs) (hr : DictRel (ByR ever) kvs mk) (he : BysAre evs ever) (lo : (D1 == sysModules) = false) (l1 : @LT.lt Nat _ dI I) (l2 : @LT.lt Nat _ I D1) (l3 : @LT.lt Nat _ D1 E1)
-- text Rules3
/-- the sorted list -/
def srt (ks : List Int) : List Int := ks.mergeSort fun a b => decide (a ≤ b)
theorem srt_perm (ks : List Int) : (srt ks).Perm ks := List.mergeSort_perm _ _
theorem srt_sorted (ks : List Int) : (srt ks).Pairwise (· ≤ ·) := by
  have h := List.pairwise_mergeSort (le := fun a b : Int => decide (a ≤ b)) (fun a b c h1 h2 => by simp at *; omega) (fun a b => by simp; omega) ks
  exact h.imp fun h => by simpa using h
theorem srt_eq {ks ns : List Int} (hp : ns.Perm ks) (hs : ns.Pairwise (· ≤ ·)) : ns = srt ks := ksm_same (hp.trans (srt_perm ks).symm) hs (srt_sorted ks)
theorem srt_mem {ks : List Int} {k : Int} : k ∈ srt ks ↔ k ∈ ks := (srt_perm ks).mem_iff
theorem srt_len (ks : List Int) : (srt ks).length = ks.length := (srt_perm ks).length_eq

section
variable {prog : Program} {w : World} {A : Around} {E : Value → Shared → Prop} {s : Shared} {h₀ : Heap} {L d l : Addr} {m : Str → Option Value} {news : List (Addr × Obj)} {o : Obj} {kvs : List (Int × Value)}
  {R : Int → Value → Prop} {ks : List Int} {vs : List Value} {n : Nat} {Q : Value → Shared → Prop}

theorem list_sort_L {B : Addr} {c : Nat} (F : Fr h₀ L s.heap m) (N : News h₀ L s.heap ((B, PySem.W.listOf vs.toArray c) :: news)) (hl : ∀ q ∈ news, @LT.lt Nat _ q.1 B) (hi : IntsAre vs ks) (h64 : ks.length < 64)
    (h : ∀ h' vs' c', Fr h₀ L h' m → News h₀ L h' ((B, PySem.W.listOf vs'.toArray c') :: news) → IntsAre vs' (srt ks) → Q .none { s with heap := h' }) :
    wpAny (model prog w) A (call (.builtin "list.sort") [.ref B]) Q E s := by
  have hm := N (B, PySem.W.listOf vs.toArray c) (.head _)
  have hB := Heap.lt_size hm.1
  refine wpAny_call_entry slot_list_sort ⟨_, hm.1, rfl⟩ entry_list_sort (list_sort_tree hm.1 hi (by rw [hi.length]; exact h64) fun out ns' a1 a2 a3 => ?_) (args_list_sort _)
  obtain ⟨e, he⟩ := sortedHeap_at (vs := vs) (out := out) hm.1
  have old : ∀ b, b ≠ B → b < s.heap.objs.size → (sortedHeap s.heap B vs out).get? b = s.heap.get? b := fun b hb hlt => sortedHeap_old hb hlt
  rw [srt_eq a2 a3] at a1
  obtain ⟨oL, es, ep, hL, r⟩ := F.ns
  refine ⟨_, rfl, h (sortedHeap s.heap B vs out) out.toList e ⟨⟨oL, es, ep, (old L (Ne.symm hm.2.1) (Heap.lt_size hL)).trans hL, r⟩, fun b o' q => ?_, F.above⟩ (fun p hp => ?_) a1⟩
  · have := F.keep b o' q
    refine (old b (fun z => ?_) (Heap.lt_size this)).trans this
    have h1 := hm.2.2; rw [← z, q] at h1; cases h1
  · rcases List.mem_cons.mp hp with rfl | hp
    · exact ⟨by simpa using he, hm.2⟩
    · have z := N p (.tail _ hp)
      exact ⟨(old p.1 (Nat.ne_of_lt (hl p hp)) (Heap.lt_size z.1)).trans z.1, z.2⟩

theorem dict_sorted (hh : A.handled = none) (F : Fr h₀ L s.heap m) (N : News h₀ L s.heap news) (hp : (d, o) ∈ news) (hd : o.IsDictOf (PySem.intKind prog w) kvs) (hr : DictRel R kvs ks) (lo : (d == sysModules) = false) (h64 : ks.length < 64)
    (h : ∀ D vs' c h' tk, Fr h₀ L h' m → News h₀ L h' ((D, PySem.W.listOf vs'.toArray c) :: news) → (∀ q ∈ news, q.1 < D) → IntsAre vs' (srt ks) → Q (.ref D) { s with heap := h', toks := tk }) :
    wpAny (model prog w) A (call (.builtin "sorted") [.ref d]) Q E s := by
  have hD : s.heap.DictOf (PySem.intKind prog w) d kvs := Heap.dictOf_iff.mpr ⟨o, (N _ hp).1, hd⟩
  obtain ⟨ep, hat⟩ := hD.dictAt
  have hlen := hr.len
  refine kdu_sorted (kdl_dict (knd := PySem.intKind prog w) (kvs := kvs) (ep := ep) lo) hh F N hat (kdl_size (by omega)) fun B h' tk us F' N' l1 hl hv => ?_
  refine list_sort_L (s := { s with heap := h', toks := tk }) F' N' l1 (ks := ks) (ints_of (by omega) fun j u hu => ?_) h64 fun h'' vs' c' F'' N'' hi => h B vs' c' h'' tk F'' N'' l1 hi
  obtain ⟨k, x, hx, hk⟩ := hv j u hu
  obtain ⟨t, rfl⟩ := Value.isInt_shape hk
  exact ⟨k, t, by rw [← hr.keys, List.getElem?_map, hx]; rfl, rfl⟩

theorem list_sorted (F : Fr h₀ L s.heap m) (N : News h₀ L s.heap news) (hp : (l, PySem.W.listOf vs.toArray n) ∈ news) (hi : IntsAre vs ks) (h64 : ks.length < 64)
    (h : ∀ D vs' c h', Fr h₀ L h' m → News h₀ L h' ((D, PySem.W.listOf vs'.toArray c) :: news) → (∀ q ∈ news, q.1 < D) → IntsAre vs' (srt ks) → Q (.ref D) { s with heap := h' }) :
    wpAny (model prog w) A (call (.builtin "sorted") [.ref l]) Q E s :=
  kso_sorted F N ⟨_, (N _ hp).1, rfl, n, rfl⟩ hi h64 fun D vs' ns' c h' F' N' l1 a1 _ a2 a3 _ => h D vs' c h' F' N' l1 (by rw [← srt_eq a2 a3]; exact a1)

/-- the least -/
def minI (ks : List Int) : Int := (srt ks).headD 0
theorem minI_eq {ks : List Int} {M : Int} (h1 : M ∈ ks) (h2 : ∀ a ∈ ks, M ≤ a) : minI ks = M := by
  unfold minI
  have hs := srt_sorted ks
  have hm := srt_mem.mpr h1
  cases e : srt ks with
  | nil => rw [e] at hm; cases hm
  | cons x r =>
    rw [e] at hs hm
    have hx : x ∈ ks := srt_mem.mp (by rw [e]; exact .head _)
    have h3 := h2 x hx
    rcases List.mem_cons.mp hm with q | q
    · exact q.symm
    · have := (List.pairwise_cons.mp hs).1 M q
      show x = M
      omega
theorem dict_min (hh : A.handled = none) (F : Fr h₀ L s.heap m) (N : News h₀ L s.heap news) (hp : (d, o) ∈ news) (hd : o.IsDictOf (PySem.intKind prog w) kvs) (hr : DictRel R kvs ks) (lo : (d == sysModules) = false) (hne : ks ≠ [])
    (h : ∀ t h' tk, Fr h₀ L h' m → News h₀ L h' news → Q (.int (minI ks) t) { s with heap := h', toks := tk }) :
    wpAny (model prog w) A (call (.builtin "min") [.ref d]) Q E s := by
  have hD : s.heap.DictOf (PySem.intKind prog w) d kvs := Heap.dictOf_iff.mpr ⟨o, (N _ hp).1, hd⟩
  obtain ⟨ep, hat⟩ := hD.dictAt
  have hlt := hat.lt_size
  have hlen := hr.len
  have hpos : 0 < kvs.length := by rw [hlen]; exact List.length_pos_iff.mpr hne
  have at_ : ∀ i v, (∃ k x, kvs[i]? = some (k, x) ∧ (PySem.intKind prog w).is k v = true) → ∃ t, v = .int (ks.getD i 0) t := fun i v hh => by
    obtain ⟨k, y, e, hv⟩ := hh
    obtain ⟨t, rfl⟩ := Value.isInt_shape hv
    refine ⟨t, ?_⟩
    have : ks[i]? = some k := by rw [← hr.keys, List.getElem?_map, e]; rfl
    rw [List.getD_eq_getElem?_getD, this]; rfl
  refine call_min_walk (wpAny_pyIter_dict lo hat ?_)
  refine ⟨_, _, _, _, _, _, _, rfl, Walks.dictKeys (A := A.in1) (knd := PySem.intKind prog w) hh s.heap.objs.size d (Nat.ne_of_lt hlt) kvs ep, ⟨⟨_, Heap.get?_push_size _ rfl, rfl, rfl⟩, hat.push _⟩, (fun b hb => ?_), hpos, CmpOf.ints_lt (fun i => ks.getD i 0) at_, fun v h' tk hv hk => ?_⟩
  · show b < (s.heap.push _).objs.size
    rw [Heap.size_push]
    rcases List.mem_cons.mp hb with rfl | hb
    · exact Nat.lt_succ_self _
    · rw [List.mem_singleton.mp hb]; exact Nat.lt_succ_of_lt hlt
  · obtain ⟨t, rfl⟩ := at_ _ _ hv
    obtain ⟨h1, h2⟩ := argBest_lt (fun i => ks.getD i 0) (kvs.length - 1)
    have hk' : ∀ b o, s.heap.get? b = some o → h'.get? b = some o := fun b o e => hk b o (fun q => by rw [List.mem_singleton.mp q] at e; exact absurd (Heap.lt_size e) (Nat.lt_irrefl _)) (Heap.get?_push_of_some _ e)
    have e : minI ks = ks.getD (argBest (fun i j => decide (ks.getD i 0 < ks.getD j 0)) (kvs.length - 1)) 0 := by
      refine minI_eq ?_ fun a ha => ?_
      · rw [List.getD_eq_getElem?_getD, List.getElem?_eq_getElem (by omega)]
        exact List.getElem_mem _
      · obtain ⟨j, hj, rfl⟩ := List.getElem_of_mem ha
        have := h2 j (by omega)
        rw [List.getD_eq_getElem?_getD, List.getD_eq_getElem?_getD, List.getElem?_eq_getElem hj] at this
        simpa using this
    rw [← e]
    exact h t h' tk (F.grownK hk') (N.grown hk')
end
-- text Rel2
/-- the reset token of a number -/
def tokB (k : Int) : By := (List.replicate 16 (UInt8.ofNat k.toNat)).toArray
def TokR (k : Int) (v : Value) : Prop := (k = 0 → v = .none) ∧ (k ≠ 0 → ∃ t, v = .bytes (tokB k) t)
abbrev tupObj (vs : List Value) : Obj := { cls := .type "tuple", data := .seq (List.toArray vs) }
/-- a value that is the pair (id, token) of a number -/
def TupR (TI : Addr → Obj → Prop) (ever : List By) (k : Int) (v : Value) : Prop := ∃ a tc tv, v = .ref a ∧ TI a (tupObj [.bytes (cidOf ever k) tc, tv]) ∧ TokR k tv

/-- the user's fields -/
abbrev usrO (w : World) (lim cur prior : Int) (KN US TD TR : Addr) (t1 t2 t3 t4 t5 t6 t7 t8 u1 u3 u5 : Tok) : Obj := dictOf [ent w (Str.ofString "limit") t1 (.int lim u1), ent w (Str.ofString "known") t2 (.ref KN), ent w (Str.ofString "current") t3 (.int cur u3),
    ent w (Str.ofString "used") t4 (.ref US), ent w (Str.ofString "retire_prior") t5 (.int prior u5), ent w (Str.ofString "told") t6 (.ref TD), ent w (Str.ofString "to_retire") t7 (.ref TR), ent w (Str.ofString "is_empty") t8 (.bool false)] 8
inductive UsrD (w : World) (lim cur prior : Int) (KN US TD TR : Addr) (o : Obj) : Prop
  | mk (t1 t2 t3 t4 t5 t6 t7 t8 u1 u3 u5 : Tok) (h : o = usrO w lim cur prior KN US TD TR t1 t2 t3 t4 t5 t6 t7 t8 u1 u3 u5)

/-- what the user's side holds and may turn: known, used, to_retire, current -/
structure Ust where
  kk : List Int
  us : List Int
  tr : List Int
  cur : Int

inductive Usr (w : World) (TI : Addr → Obj → Prop) (U : Addr) (lim prior : Int) (ever : List By) (tk : List Int) (σ : Ust) (ul : List (Addr × Obj)) : Prop
  | mk (dU KN US TD TR : Addr) (od okn otd : Obj) (kvs1 kvs2 : List (Int × Value)) (uvs : List Value) (n1 : Nat) (tvs : List Value) (n2 : Nat)
    (h : ul = [(U, instObj 192 dU), (dU, od), (KN, okn), (US, PySem.W.listOf (List.toArray uvs) n1), (TD, otd), (TR, PySem.W.listOf (List.toArray tvs) n2)]) (hD : UsrD w lim σ.cur prior KN US TD TR od)
    (h1 : okn.IsDictOf (PySem.intKind PG w) kvs1) (r1 : DictRel (TupR TI ever) kvs1 σ.kk) (h2 : otd.IsDictOf (PySem.intKind PG w) kvs2) (r2 : DictRel (TupR TI ever) kvs2 tk) (hu : IntsAre uvs σ.us) (ht : IntsAre tvs σ.tr)
    (lo1 : (KN == sysModules) = false) (lo2 : (TD == sysModules) = false) (l1 : @LT.lt Nat _ dU U) (l2 : @LT.lt Nat _ U KN) (l3 : @LT.lt Nat _ KN US) (l4 : @LT.lt Nat _ US TD) (l5 : @LT.lt Nat _ TD TR)

def addU (us : List Int) (n : Int) : List Int := if n ∈ us then us else us ++ [n]
def useU (σ : Ust) (n : Int) : Ust := { σ with cur := n, us := addU σ.us n }
def dropK (kk : List Int) (n : Int) : List Int := kk.filter fun j => decide (j ≠ n)
def ret1 (σ : Ust) (n : Int) : Ust :=
  let σ' : Ust := { σ with kk := dropK σ.kk n, tr := σ.tr ++ [n] }
  if n = σ.cur ∧ dropK σ.kk n ≠ [] then useU σ' (minI (dropK σ.kk n)) else σ'
-- text Loops
section
variable {prog : Program} {w : World} {A : Around} {E : Value → Shared → Prop} {s : Shared} {env : Env} {h₀ : Heap} {x : Str} {body : List Stmt} {Q : Flow → Shared → Prop}

/-- the end of a turn of a loop (a sign for the walk: it stops here) -/
def TurnQ (h₀ : Heap) (L : Addr) (x : Str) (m₀ : Str → Option Value) (adr : List Addr) (J : List (Addr × Obj) → Prop) (st : List (Addr × Obj)) (Q : Flow → Shared → Prop) (s₁ : Shared) (f : Flow) (s₂ : Shared) : Prop :=
  (∃ v, f = .ret v ∧ Q (.ret v) s₂) ∨ (f = .brk ∧ Q .next s₂) ∨ ((f = .next ∨ f = .cont) ∧ ∃ h' tk m' ul, s₂ = { s₁ with heap := h', toks := tk } ∧ Fr h₀ L h' m' ∧ (∀ y, y ≠ x → m' y = m₀ y) ∧ ul.map (·.1) = adr ∧ News h₀ L h' (ul ++ st) ∧ J ul)
theorem turn_next {L : Addr} {m₀ m' : Str → Option Value} {adr : List Addr} {J : List (Addr × Obj) → Prop} {st ul : List (Addr × Obj)} {s₁ : Shared} {h' : Heap} {tk : Nat} (F : Fr h₀ L h' m') (N : News h₀ L h' (ul ++ st)) (hm : ∀ y, y ≠ x → m' y = m₀ y) (ha : ul.map (·.1) = adr) (hj : J ul) :
    TurnQ h₀ L x m₀ adr J st Q s₁ .next { s₁ with heap := h', toks := tk } := .inr (.inr ⟨.inl rfl, h', tk, m', ul, rfl, F, hm, ha, N, hj⟩)

theorem off_of {ul ul' st : List (Addr × Obj)} (ha : ul'.map (·.1) = ul.map (·.1)) (h : Off ul st) : Off ul' st := fun p hp q hq => by
  have : p.1 ∈ ul.map (·.1) := by rw [← ha]; exact List.mem_map.mpr ⟨p, hp, rfl⟩
  obtain ⟨r, hr, e⟩ := List.mem_map.mp this
  rw [← e]; exact h r hr q hq
theorem split_len {α β : Type} (f : α → β) {l a b : List α} (h : l.map f = (a ++ b).map f) : ∃ a' b', l = a' ++ b' ∧ a'.map f = a.map f ∧ b'.map f = b.map f := by
  rw [List.map_append] at h
  refine ⟨l.take a.length, l.drop a.length, (List.take_append_drop ..).symm, ?_, ?_⟩
  · rw [List.map_take, h]; simp
  · rw [List.map_drop, h]; simp

theorem iter_J {l : Addr} {vs : List Value} {ns : List Int} {nn : Nat} {m₀ : Str → Option Value} {ul₀ st : List (Addr × Obj)} (J : Nat → List (Addr × Obj) → Prop)
    (hh : A.handled = none) (hl : (l, PySem.W.listOf vs.toArray nn) ∈ st) (hi : IntsAre vs ns) (F : Fr h₀ env.locals s.heap m₀) (N : News h₀ env.locals s.heap (ul₀ ++ st)) (hoff : Off ul₀ st) (h0 : J 0 ul₀)
    (turn : ∀ i n t ul h tk own, ns[i]? = some n → ul.map (·.1) = ul₀.map (·.1) → Off ul (st ++ own) → J i ul → Fr h₀ env.locals h (fun y => if y = x then some (.int n t) else m₀ y) → News h₀ env.locals h (ul ++ (st ++ own)) →
      wpAny (model prog w) A (execs body env) (TurnQ h₀ env.locals x m₀ (ul₀.map (·.1)) (J (i + 1)) (st ++ own) Q { s with heap := h, toks := tk }) E { s with heap := h, toks := tk })
    (done : ∀ v ul h tk, J ns.length ul → ul.map (·.1) = ul₀.map (·.1) → Fr h₀ env.locals h (fun y => if y = x then v else m₀ y) → News h₀ env.locals h (ul ++ st) → Q .next { s with heap := h, toks := tk }) :
    wpAny (model prog w) A (pyIter (.ref l)) (fun it s₂ => LoopAtV prog w A h₀ env x body Q E it s₂) E s := by
  refine iter_invNL (nn := nn) (m₀ := m₀) (fun i m nx => (∃ ul, nx = ul ++ st ∧ ul.map (·.1) = ul₀.map (·.1) ∧ J i ul) ∧ ∀ y, y ≠ x → m y = m₀ y) hh (List.mem_append_right _ hl) hi F N ⟨⟨ul₀, rfl, rfl, h0⟩, fun _ _ => rfl⟩ ?_ ?_
  · rintro i n t m₁ news₁ h tk own hn _ hsep _ ⟨⟨ul, rfl, ha, hj⟩, hm⟩ F₁ N₁
    have e : (fun y => if y = x then some (Value.int n t) else m₁ y) = fun y => if y = x then some (Value.int n t) else m₀ y := by
      funext y
      by_cases h1 : y = x
      · simp [h1]
      · simp only [if_neg h1]; exact hm y h1
    rw [e] at F₁
    have hoff' : Off ul (st ++ own) := fun p hp q hq => by
      rcases List.mem_append.mp hq with hq | hq
      · exact off_of ha hoff p hp q hq
      · refine hsep q hq p.1 ?_
        rw [List.map_append, ← ha]
        exact List.mem_append_left _ (List.mem_map.mpr ⟨p, hp, rfl⟩)
    rw [List.append_assoc] at N₁
    refine wpAny_mono (turn i n t ul h tk own hn ha hoff' hj F₁ N₁) (fun f s₂ hq => ?_) fun _ _ e => e
    rcases hq with ⟨v, rfl, hq⟩ | ⟨rfl, hq⟩ | ⟨hf, h', tk', m', ul', rfl, F', hm', ha', N', hj'⟩
    · exact hq
    · exact hq
    · have : InvEndN h₀ env.locals (fun m' nx => (l, PySem.W.listOf vs.toArray nn) ∈ nx ∧ (∃ ul, nx = ul ++ st ∧ ul.map (·.1) = ul₀.map (·.1) ∧ J (i + 1) ul) ∧ ∀ y, y ≠ x → m' y = m₀ y) own ((ul₀ ++ st).map (·.1)) { s with heap := h, toks := tk } { s with heap := h', toks := tk' } :=
        ⟨h', tk', m', ul' ++ (st ++ own), ul' ++ st, rfl, F', N', (fun p hp => by rw [← List.append_assoc]; exact List.mem_append_left _ hp), (fun p hp => List.mem_append_right _ (List.mem_append_right _ hp)),
          by rw [List.map_append, List.map_append, ha'], List.mem_append_right _ hl, ⟨ul', rfl, ha', hj'⟩, hm'⟩
      rcases hf with rfl | rfl <;> exact this
  · rintro m₁ news₁ h tk _ ⟨⟨ul, rfl, ha, hj⟩, hm⟩ F₁ N₁
    refine done (m₁ x) ul h tk hj ha ?_ N₁
    have e : (fun y => if y = x then m₁ x else m₀ y) = m₁ := by
      funext y
      by_cases h1 : y = x
      · simp [h1]
      · simp only [if_neg h1]; exact (hm y h1).symm
    rw [e]; exact F₁
end
-- text Eqs
theorem ti_at {g h : Heap} {L : Addr} {m : Str → Option Value} {TI : Addr → Obj → Prop} {a : Addr} {o : Obj} (F : Fr g L h m) (ht : ∀ a o, TI a o → g.get? a = some o) (h' : TI a o) : h.get? a = some o := F.keep _ _ (ht _ _ h')

/-- the items are equal, one by one -/
inductive Alike (A : Around) (s : Shared) : List Value → List Value → Prop
  | nil : Alike A s [] []
  | cons {x y : Value} {xs ys : List Value} : SeqAt.EqAt A s x y true → Alike A s xs ys → Alike A s (x :: xs) (y :: ys)
theorem Alike.length {A : Around} {s : Shared} {xs ys : List Value} (h : Alike A s xs ys) : xs.length = ys.length := by induction h with
  | nil => rfl
  | cons _ _ ih => simp [ih]
theorem Alike.at {A : Around} {s : Shared} {xs ys : List Value} (h : Alike A s xs ys) : ∀ j (h1 : j < xs.length) (h2 : j < ys.length), SeqAt.EqAt A s xs[j] ys[j] true := by
  induction h with
  | nil => intro j h1; exact absurd h1 (Nat.not_lt_zero _)
  | cons e _ ih =>
    intro j h1 h2
    cases j with
    | zero => exact e
    | succ j => exact ih j (by simpa using h1) (by simpa using h2)
theorem all_tt (n : Nat) : (List.range n).all (fun _ => true) = true := by simp

section
variable {prog : Program} {w : World} {A : Around} {E : Value → Shared → Prop} {s : Shared} {a b : Addr} {xs ys : List Value} {n k : Nat}
theorem rc_tup (ha : s.heap.get? a = some (tupObj xs)) (hb : s.heap.get? b = some (tupObj ys)) (hu : A.units < cLine) (h : Alike A.in1 s xs ys) : SeqAt.RcAt A s (.ref a) (.ref b) true := by
  have r := SeqAt.RcAt.tuples (A := A) (s := s) (l := a) (b := b) (items := xs.toArray) (items2 := ys.toArray) (e := fun _ => true) ⟨_, ha, rfl, _, rfl⟩ ⟨_, hb, rfl, _, rfl⟩ hu (fun j h1 h2 => by simpa using h.at j (by simpa using h1) (by simpa using h2))
  have e : ((List.range (min xs.toArray.size ys.toArray.size)).all (fun _ => true) && xs.toArray.size == ys.toArray.size) = true := by
    rw [all_tt, Bool.true_and]; simp [h.length]
  rw [e] at r; exact r
theorem eq_tup {Q : Value → Shared → Prop} (ha : s.heap.get? a = some (tupObj xs)) (hb : s.heap.get? b = some (tupObj ys)) (hu : A.units < cLine) (h : Alike A.in1 s xs ys) (hq : Q (.bool true) s) :
    wpAny (model prog w) A (compareOp .Eq (.ref a) (.ref b)) Q E s := rc_tup ha hb hu h prog w E Q hq
theorem ne_tup {Q : Value → Shared → Prop} (ha : s.heap.get? a = some (tupObj xs)) (hb : s.heap.get? b = some (tupObj ys)) (hu : A.units < cLine) (h : Alike A.in1 s xs ys) (hq : Q (.bool false) s) :
    wpAny (model prog w) A (compareOp .NotEq (.ref a) (.ref b)) Q E s := by
  have r := SeqAt.RcNeAt.tuples (A := A) (s := s) (l := a) (b := b) (items := xs.toArray) (items2 := ys.toArray) (e := fun _ => true) ⟨_, ha, rfl, _, rfl⟩ ⟨_, hb, rfl, _, rfl⟩ hu (fun j h1 h2 => by simpa using h.at j (by simpa using h1) (by simpa using h2))
  have e : (!((List.range (min xs.toArray.size ys.toArray.size)).all (fun _ => true) && xs.toArray.size == ys.toArray.size)) = false := by
    rw [all_tt, Bool.true_and]; simp [h.length]
  rw [e] at r; exact r prog w E Q hq
theorem at_tup (ha : s.heap.get? a = some (tupObj xs)) (hb : s.heap.get? b = some (tupObj ys)) (hu : A.units < cLine) (h : Alike A.in1 s xs ys) : SeqAt.EqAt A s (.ref a) (.ref b) true := by
  by_cases e : a = b
  · subst e; exact SeqAt.EqAt.same _
  · exact SeqAt.EqAt.of_refs e (rc_tup ha hb hu h)
theorem ne_list {Q : Value → Shared → Prop} (ha : s.heap.get? a = some (PySem.W.listOf xs.toArray n)) (hb : s.heap.get? b = some (PySem.W.listOf ys.toArray k)) (hu : A.units < cLine) (h : Alike A.in1 s xs ys) (hq : Q (.bool false) s) :
    wpAny (model prog w) A (compareOp .NotEq (.ref a) (.ref b)) Q E s := by
  have r := SeqAt.RcNeAt.lists (A := A) (s := s) (l := a) (b := b) (items := xs.toArray) (items2 := ys.toArray) (e := fun _ => true) ⟨_, ha, rfl, _, rfl⟩ ⟨_, hb, rfl, _, rfl⟩ (by simp [h.length]) hu (fun j h1 h2 => by simpa using h.at j (by simpa using h1) (by simpa using h2))
  rw [all_tt] at r; exact r prog w E Q hq
theorem at_by (b : By) (t u : Tok) : SeqAt.EqAt A s (.bytes b t) (.bytes b u) true := by
  have := (eqGives_bytes b b t u).at A s
  rwa [decide_eq_true rfl] at this
theorem at_int (i : Int) (t u : Tok) : SeqAt.EqAt A s (.int i t) (.int i u) true := by
  have := SeqAt.EqAt.int_int (A := A) (s := s) i t i u
  rwa [show (i == i) = true from beq_self_eq_true i] at this
theorem at_str (i : Str) (t u : Tok) : SeqAt.EqAt A s (.str i t) (.str i u) true := by
  have := SeqAt.EqAt.str_str (A := A) (s := s) i t i u
  rwa [show (i == i) = true from beq_self_eq_true i] at this
theorem at_tok {n : Int} {v u : Value} (hv : TokR n v) (hu : TokR n u) : SeqAt.EqAt A s v u true := by
  by_cases h : n = 0
  · rw [hv.1 h, hu.1 h]; exact SeqAt.EqAt.same _
  · obtain ⟨t, rfl⟩ := hv.2 h
    obtain ⟨t', rfl⟩ := hu.2 h
    exact at_by _ _ _
end

section
variable {prog : Program} {w : World} {A : Around} {E : Value → Shared → Prop} {s : Shared} {h₀ : Heap} {L d : Addr} {news : List (Addr × Obj)} {o : Obj} {kvs : List (Int × Value)} {R : Int → Value → Prop} {ks : List Int} {k : Int} {t : Tok}
theorem dict_get {Q : Value → Shared → Prop} (N : News h₀ L s.heap news) (hp : (d, o) ∈ news) (hd : o.IsDictOf (PySem.intKind prog w) kvs) (hr : DictRel R kvs ks) (hk : k ∈ ks)
    (h : ∀ v, R k v → Q v { s with toks := s.toks + 1 }) : wpAny (model prog w) A (getItem (.ref d) (.int k t)) Q E s := by
  obtain ⟨v, e, hv⟩ := hr.at hk
  exact wpAny_getItem_of (intKind_is prog w k t) (kda_dict N hp hd).mapOf e (h v hv)
end

section
variable {prog : Program} {w : World} {A : Around} {E : Value → Shared → Prop} {s : Shared} {env : Env} {h₀ : Heap} {x : Str} {body : List Stmt} {Q : Flow → Shared → Prop}
/-- a loop over a dict's keys whose turns leave all as it stood -/
theorem iter_D {d : Addr} {o : Obj} {kvs : List (Int × Value)} {R : Int → Value → Prop} {ks : List Int} {m₀ : Str → Option Value} {st : List (Addr × Obj)}
    (hh : A.handled = none) (hp : (d, o) ∈ st) (hd : o.IsDictOf (PySem.intKind prog w) kvs) (hr : DictRel R kvs ks) (lo : (d == sysModules) = false) (F : Fr h₀ env.locals s.heap m₀) (N : News h₀ env.locals s.heap st)
    (turn : ∀ n t h tk own, n ∈ ks → Fr h₀ env.locals h (fun y => if y = x then some (.int n t) else m₀ y) → News h₀ env.locals h (st ++ own) →
      wpAny (model prog w) A (execs body env) (TurnQ h₀ env.locals x m₀ [] (fun _ => True) (st ++ own) Q { s with heap := h, toks := tk }) E { s with heap := h, toks := tk })
    (done : ∀ v h tk, Fr h₀ env.locals h (fun y => if y = x then v else m₀ y) → News h₀ env.locals h st → Q .next { s with heap := h, toks := tk }) :
    wpAny (model prog w) A (pyIter (.ref d)) (fun it s₂ => LoopAtV prog w A h₀ env x body Q E it s₂) E s := by
  have hD : s.heap.DictOf (PySem.intKind prog w) d kvs := Heap.dictOf_iff.mpr ⟨o, (N _ hp).1, hd⟩
  obtain ⟨ep, hat⟩ := hD.dictAt
  have hlt := hat.lt_size
  have hlen := hr.len
  refine wpAny_pyIter_dict lo hat ?_
  have W := Walks.dictKeys (prog := prog) (w := w) (A := A) (knd := PySem.intKind prog w) hh s.heap.objs.size d (Nat.ne_of_lt hlt) kvs ep
  have hIn : ∀ p ∈ st, p.1 ∉ [s.heap.objs.size] := fun p hp hI => absurd (Heap.lt_size (N p hp).1) ((List.mem_singleton.mp hI) ▸ Nat.lt_irrefl _)
  refine ⟨_, _, _, kvs.length, _, _, m₀, st, (fun _ m nx => nx = st ∧ ∀ y, y ≠ x → m y = m₀ y), rfl, W, ?_, ?_, hIn, ⟨⟨_, Heap.get?_push_size _ rfl, rfl, rfl⟩, hat.push _⟩, F.push _, (fun p hp => ⟨Heap.get?_push_of_some _ (N p hp).1, (N p hp).2⟩), ⟨rfl, fun _ _ => rfl⟩, ?_, ?_⟩
  · intro hm
    rcases List.mem_cons.mp hm with e | hm
    · exact absurd F.ns.lt (e ▸ Nat.lt_irrefl _)
    · exact absurd (List.mem_singleton.mp hm).symm (N _ hp).2.1
  · intro b hb
    rw [List.mem_singleton.mp hb]
    exact next_is_new F
  · rintro i v m₁ news₁ s₁ own ⟨hh', tk', rfl⟩ hin ⟨k, y, hx, hk⟩ ⟨rfl, hm⟩ _ _ _ _ _ F₁ N₁
    obtain ⟨t, rfl⟩ := Value.isInt_shape hk
    have hkm : k ∈ ks := by rw [← hr.keys]; exact List.mem_map.mpr ⟨_, List.mem_of_getElem? hx, rfl⟩
    have e : (fun y => if y = x then some (Value.int k t) else m₁ y) = fun y => if y = x then some (Value.int k t) else m₀ y := by
      funext y
      by_cases h1 : y = x
      · simp [h1]
      · simp only [if_neg h1]; exact hm y h1
    rw [e] at F₁
    have N₂ : News h₀ env.locals hh' (news₁ ++ own) := fun p hp => N₁ p ((List.mem_append.mp hp).elim (fun h => List.mem_append.mpr (.inr h)) fun h => List.mem_append.mpr (.inl h))
    refine wpAny_mono (turn k t hh' tk' own hkm F₁ N₂) (fun f s₂ hq => ?_) fun _ _ e => e
    rcases hq with ⟨v, rfl, hq⟩ | ⟨rfl, hq⟩ | ⟨hf, h', tk₂, m', ul', rfl, F', hm', ha', N', _⟩
    · exact .ret hq
    · exact .brk hq
    · have hul : ul' = [] := List.map_eq_nil_iff.mp ha'
      subst hul
      have fin : LoopStepU h₀ env.locals [s.heap.objs.size] own (fun m nx => nx = news₁ ∧ ∀ y, y ≠ x → m y = m₀ y) { s with heap := hh', toks := tk' } .next { s with heap := h', toks := tk₂ } :=
        ⟨rfl, h', tk₂, m', news₁, rfl, F', (fun p hp => N' p (List.mem_append_right _ ((List.mem_append.mp hp).elim (fun h => List.mem_append.mpr (.inr h)) fun h => List.mem_append.mpr (.inl h)))), hIn, rfl, hm'⟩
      rcases hf with rfl | rfl
      · exact .next fin
      · exact .cont fin
  · rintro h' tk m' news' F' N' _ ⟨rfl, hm⟩
    refine done (m' x) h' tk ?_ N'
    have e : (fun y => if y = x then m' x else m₀ y) = m' := by
      funext y
      by_cases h1 : y = x
      · simp [h1]
      · simp only [if_neg h1]; exact (hm y h1).symm
    rw [e]; exact F'
end
-- text Frm
/-- pairs (word, number), as tuples on the ledger -/
inductive TupsAre (S : Str) : List (Addr × Obj) → List Int → Prop
  | nil : TupsAre S [] []
  | cons (a : Addr) (t u : Tok) (k : Int) {es ks} : TupsAre S es ks → TupsAre S ((a, tupObj [.str S t, .int k u]) :: es) (k :: ks)
theorem TupsAre.snoc {S : Str} {es : List (Addr × Obj)} {ks : List Int} (h : TupsAre S es ks) (a : Addr) (t u : Tok) (k : Int) : TupsAre S (es ++ [(a, tupObj [.str S t, .int k u])]) (ks ++ [k]) := by
  induction h with
  | nil => exact .cons a t u k .nil
  | cons b t' u' j _ ih => exact .cons b t' u' j ih
abbrev refsOf (es : List (Addr × Obj)) : List Value := es.map fun p => Value.ref p.1
theorem tups_alike {A : Around} {s : Shared} {S : Str} {es fs : List (Addr × Obj)} {ks : List Int} (h : TupsAre S es ks) (g : TupsAre S fs ks) (he : ∀ p ∈ es, s.heap.get? p.1 = some p.2) (hf : ∀ p ∈ fs, s.heap.get? p.1 = some p.2) (hu : A.units < cLine) :
    Alike A s (refsOf es) (refsOf fs) := by
  induction h generalizing fs with
  | nil => cases g; exact .nil
  | cons a t u k h ih =>
    cases g with
    | cons b t' u' _ g =>
      refine .cons (at_tup (he _ (.head _)) (hf _ (.head _)) hu (.cons (at_str _ _ _) (.cons (at_int _ _ _) .nil))) (ih g (fun p hp => he p (.tail _ hp)) fun p hp => hf p (.tail _ hp))

/-- the end of a turn that gives a pair (a sign for the walk: it stops here) -/
def TupEnd (S : Str) (h₀ : Heap) (L : Addr) (m : Str → Option Value) (k : Int) (l : List (Addr × Obj)) (s₁ : Shared) (y : Value) (s₂ : Shared) : Prop :=
  ∃ a t u h' tk', y = .ref a ∧ s₂ = { s₁ with heap := h', toks := tk' } ∧ Fr h₀ L h' m ∧ News h₀ L h' ((a, tupObj [.str S t, .int k u]) :: l) ∧ (∀ p ∈ l, @LT.lt Nat _ p.1 a)
theorem tupEnd {S : Str} {h₀ : Heap} {L a : Addr} {m : Str → Option Value} {k : Int} {l : List (Addr × Obj)} {s₁ : Shared} {t u : Tok} {h' : Heap} {tk' : Nat} (F : Fr h₀ L h' m) (N : News h₀ L h' ((a, tupObj [.str S t, .int k u]) :: l)) (hl : ∀ p ∈ l, @LT.lt Nat _ p.1 a) :
    TupEnd S h₀ L m k l s₁ (.ref a) { s₁ with heap := h', toks := tk' } := ⟨a, t, u, h', tk', rfl, rfl, F, N, hl⟩
section
variable {prog : Program} {w : World} {A : Around} {h₀ : Heap} {L : Addr} {m : Str → Option Value} {env : Env} {elt : Expr} {x : Str} {scope : Scope} {cl : List (Str × Addr)} {s : Shared} {Sp : List (Addr × Obj) → Prop} {Fin : List Value → List (Addr × Obj) → Prop} {news : List (Addr × Obj)}
theorem rest_tups {S : Str} {vs : List Value} {ks : List Int} (hi : IntsAre vs ks) (hS : ∀ es, Sp (es ++ news))
    (turn : ∀ k t I oI C oC D m₂ oD es h tk (E' : Value → Shared → Prop), k ∈ ks → h.Ns C m₂ → m₂ x = some (.int k t) → Fr h₀ L h m → News h₀ L h ((I, oI) :: (C, oC) :: (D, oD) :: (es ++ news)) →
      wpAny (model prog w) A (eval elt (compEnvC scope cl C env)) (TupEnd S h₀ L m k ((I, oI) :: (C, oC) :: (D, oD) :: (es ++ news)) { s with heap := h, toks := tk }) E' { s with heap := h, toks := tk })
    (fin : ∀ es, TupsAre S es ks → (∀ p ∈ es, ∀ q ∈ news, @LT.lt Nat _ q.1 p.1) → Fin (refsOf es) (es ++ news)) : LCg.CompRest prog w A h₀ L m env elt x scope cl s Sp (fun i v => vs.toArray[i]? = some v) Fin vs.toArray.size 0 [] news := by
  have key : ∀ (j i : Nat) (es : List (Addr × Obj)), i + j = vs.toArray.size → TupsAre S es (ks.take i) → (∀ p ∈ es, ∀ q ∈ news, @LT.lt Nat _ q.1 p.1) →
      LCg.CompRest prog w A h₀ L m env elt x scope cl s Sp (fun i v => vs.toArray[i]? = some v) Fin j i (refsOf es) (es ++ news) := by
    intro j
    induction j with
    | zero =>
      intro i es hij ht hlt
      have e : i = ks.length := by have := hi.length; simp at hij; omega
      subst e
      rw [List.take_length] at ht
      exact LCg.CompRest.zero (fin es ht hlt)
    | succ j ih =>
      intro i es hij ht hlt
      refine LCg.CompRest.succ ?_
      intro v I oI C oC D m₂ h tk E' hv hC hx F N off ne
      obtain ⟨k, t, e, hk⟩ := IntsAre.at hi i v (by simpa using hv)
      subst e
      refine wpAny_mono (turn k t I oI C oC D m₂ _ es h tk E' (List.mem_of_getElem? hk) (hC.ns (N (C, oC) (.tail _ (.head _))).1) hx F N) (fun y s₂ hq => ?_) fun _ _ e => e
      obtain ⟨a, t', u', h', tk', rfl, rfl, F', N', hl⟩ := hq
      refine LCg.CompEnd.intro F' N' ((es ++ [(a, tupObj [.str S t', .int k u'])]) ++ news) (fun p hp => ?_) (LCg.Off3.of fun p hp => ?_) (hS _) ?_
      · simp only [List.mem_cons, List.mem_append, List.not_mem_nil, or_false] at hp ⊢
        rcases hp with h | h | h | (h | h) | h <;> simp [h]
      · simp only [List.mem_append, List.mem_cons, List.not_mem_nil, or_false] at hp
        rcases hp with (hp | rfl) | hp
        · exact off.mem p (List.mem_append_left _ hp)
        · exact ⟨Ne.symm (Nat.ne_of_lt (hl _ (.head _))), Ne.symm (Nat.ne_of_lt (hl _ (.tail _ (.head _)))), Ne.symm (Nat.ne_of_lt (hl _ (.tail _ (.tail _ (.head _)))))⟩
        · exact off.mem p (List.mem_append_right _ hp)
      · have e : refsOf es ++ [Value.ref a] = refsOf (es ++ [(a, tupObj [.str S t', .int k u'])]) := by simp [refsOf]
        rw [e]
        refine ih (i + 1) _ (by omega) ?_ ?_
        · rw [List.take_add_one, hk]
          exact ht.snoc a t' u' k
        · intro p hp q hq
          rcases List.mem_append.mp hp with hp | hp
          · exact hlt p hp q hq
          · rw [List.mem_singleton.mp hp]
            exact hl q (.tail _ (.tail _ (.tail _ (List.mem_append_right _ hq))))
  have := key vs.toArray.size 0 [] (by omega) (by rw [List.take_zero]; exact .nil) (fun _ h => nomatch h)
  exact this
end
section
variable {prog : Program} {w : World} {A : Around} {h₀ : Heap} {L : Addr} {m : Str → Option Value} {env : Env} {elt iter : Expr} {x y : Str} {px py : Pos} {scope : Scope} {cl : List (Str × Addr)} {s : Shared} {pos spos : Pos} {E : Value → Shared → Prop}
/-- what the source of a comprehension must give (a sign for the walk: it stops here) -/
def SrcU (prog : Program) (w : World) (A : Around) (h₀ : Heap) (L : Addr) (m : Str → Option Value) (env : Env) (elt : Expr) (x : Str) (scope : Scope) (cl : List (Str × Addr)) (Fin : Shared → List Value → List (Addr × Obj) → Prop) (xv : Value) (s₁ : Shared) : Prop :=
  LCg.CompSrc prog w A h₀ L m env elt x scope cl Fin xv s₁
theorem compU {Q : Value → Shared → Prop} (F₀ : Fr h₀ L s.heap m)
    (hclos : closureFor scope env = pure cl) (hcell : ∀ y ∈ scope.names, y.2 ≠ .cell) (hkind : scope.kind = .function)
    (hnames : ∀ y ∈ scope.names, y.2 = .local → scope.names.lookup y.1 = some .local) (hx : scope.names.lookup x = some .local) (hs : ∀ x, foldedSetIterable iter env x = pure x)
    (h : wpAny (model prog w) A (eval iter env) (fun xv s₁ => SrcU prog w A h₀ L m env elt x scope cl (fun s₂ => LCg.FinE h₀ L m s₂ Q) xv s₁) E s) :
    wpAny (model prog w) A (eval (.ListComp elt [⟨.Name x px, iter, [], 0⟩] scope pos) env) Q E s := LCg.ListComp_U F₀ hclos hcell hkind hnames hx h hs
theorem compUA {Q : Flow → Shared → Prop} (F₀ : Fr h₀ L s.heap m) (hLe : env.locals = L)
    (hsw : swapsWith (.ListComp elt [⟨.Name x px, iter, [], 0⟩] scope pos) (some (.Name y py)) spos.line env = pure true)
    (hclos : closureFor scope env = pure cl) (hcell : ∀ z ∈ scope.names, z.2 ≠ .cell) (hkind : scope.kind = .function)
    (hnames : ∀ z ∈ scope.names, z.2 = .local → scope.names.lookup z.1 = some .local) (hx : scope.names.lookup x = some .local)
    (hy : env.kindOf y = some .local) (hp : (env.scope.kind == .class || (env.scope.kind == .module && env.locals != env.globals)) = false) (hs : ∀ x, foldedSetIterable iter env x = pure x)
    (h : wpAny (model prog w) A (eval iter env) (fun xv s₁ => SrcU prog w A h₀ L m env elt x scope cl (fun s₂ => LCg.FinA h₀ L m s₂ y Q) xv s₁) E s) :
    wpAny (model prog w) A (exec (.Assign [.Name y py] (.ListComp elt [⟨.Name x px, iter, [], 0⟩] scope pos) spos) env) Q E s := LCg.Assign_ListComp_U F₀ hLe hsw hclos hcell hkind hnames hx hy hp h hs
theorem srcU_tups {S : Str} {l : Addr} {vs : List Value} {ks : List Int} {nn : Nat} {news : List (Addr × Obj)} {Fin : Shared → List Value → List (Addr × Obj) → Prop} (hh : A.handled = none) (hl : (l, PySem.W.listOf vs.toArray nn) ∈ news) (hi : IntsAre vs ks) (hz : vs.length ≤ 1000)
    (F : Fr h₀ L s.heap m) (N : News h₀ L s.heap news)
    (turn : ∀ k t I oI C oC D m₂ oD es h tk (E' : Value → Shared → Prop), k ∈ ks → h.Ns C m₂ → m₂ x = some (.int k t) → Fr h₀ L h m → News h₀ L h ((I, oI) :: (C, oC) :: (D, oD) :: (es ++ news)) →
      wpAny (model prog w) A (eval elt (compEnvC scope cl C env)) (TupEnd S h₀ L m k ((I, oI) :: (C, oC) :: (D, oD) :: (es ++ news)) { s with heap := h, toks := tk }) E' { s with heap := h, toks := tk })
    (fin : ∀ g es, TupsAre S es ks → (∀ p ∈ es, ∀ q ∈ news, @LT.lt Nat _ q.1 p.1) → Fin { s with heap := g } (refsOf es) (es ++ news)) : SrcU prog w A h₀ L m env elt x scope cl Fin (.ref l) s :=
  LCg.CompSrc.ledger (k := nn) hh F N hl (by rw [sizeLine_eq, List.size_toArray]; omega) fun g => rest_tups hi (fun es => .inr ⟨_, List.mem_append_right _ hl, rfl, _, rfl⟩) turn (fin g)
end
-- text Rules4
theorem ints_remove {vs : List Value} {ns : List Int} {k : Int} (h : IntsAre vs ns) : kf_ints vs = true ∧ (k ∈ ns → ns.Nodup → ∃ j q, kf_at k vs = some j ∧ ki_delL vs j = some q ∧ IntsAre q (dropK ns k)) := by
  induction h with
  | nil => exact ⟨rfl, fun hk => nomatch hk⟩
  | cons n t h ih =>
    refine ⟨ih.1, fun hk hn => ?_⟩
    obtain ⟨hn1, hn2⟩ := List.nodup_cons.mp hn
    rename_i vs' ns'
    by_cases e : n = k
    · subst e
      refine ⟨0, vs', ?_, rfl, ?_⟩
      · show cond (n == n) _ _ = _
        rw [beq_self_eq_true]; rfl
      · have : dropK (n :: ns') n = ns' := by
          unfold dropK
          rw [List.filter_cons_of_neg (by simp), List.filter_eq_self]
          intro a ha
          simp only [decide_eq_true_eq]
          rintro rfl; exact hn1 ha
        rw [this]; exact h
    · obtain ⟨j, q, e1, e2, e3⟩ := ih.2 ((List.mem_cons.mp hk).resolve_left fun e' => e e'.symm) hn2
      refine ⟨j + 1, Value.int n t :: q, ?_, ?_, ?_⟩
      · show cond (n == k) _ _ = _
        rw [beq_eq_false_iff_ne.mpr e, e1]; rfl
      · show (match ki_delL vs' j with | some q => some (Value.int n t :: q) | none => none) = _
        rw [e2]
      · have : dropK (n :: ns') k = n :: dropK ns' k := by
          unfold dropK
          rw [List.filter_cons_of_pos (by simpa using e)]
        rw [this]; exact .cons n t e3
theorem upd_of {d : Addr} {o o' : Obj} {post : List (Addr × Obj)} (hp : ∀ p ∈ post, p.1 ≠ d) : ∀ {pre : List (Addr × Obj)}, (∀ p ∈ pre, p.1 ≠ d) → Upd d o o' (pre ++ (d, o) :: post) (pre ++ (d, o') :: post)
  | [], _ => .head hp
  | p :: _, h => .tail (h p (.head _)) (upd_of hp fun q hq => h q (.tail _ hq))
section
variable {prog : Program} {w : World} {A : Around} {E : Value → Shared → Prop} {s : Shared} {h₀ : Heap} {L l : Addr} {m : Str → Option Value} {news : List (Addr × Obj)} {g : Obj → List (Addr × Obj)} {k : Int} {t : Tok} {vs : List Value} {ns : List Int} {n : Nat}
theorem list_rm {Q : Value → Shared → Prop} (F : Fr h₀ L s.heap m) (N : News h₀ L s.heap news) (U : UpdF l (PySem.W.listOf vs.toArray n) news g) (hi : IntsAre vs ns) (hk : k ∈ ns) (hn : ns.Nodup) (hz : ns.length ≤ 1000)
    (h : ∀ h' q n', Fr h₀ L h' m → News h₀ L h' (g (PySem.W.listOf (List.toArray q) n')) → IntsAre q (dropK ns k) → Q .none { s with heap := h' }) : wpAny (model prog w) A (call (.builtin "list.remove") [.ref l, .int k t]) Q E s := by
  obtain ⟨pre, post, rfl, hg, a, b⟩ := U.split
  obtain ⟨h1, h2⟩ := ints_remove (k := k) hi
  obtain ⟨j, q, e1, e2, e3⟩ := h2 hk hn
  exact kf_remove F N h1 e1 e2 (upd_of b a) (by rw [sizeLine_eq]; show vs.length ≤ _; rw [hi.length]; omega) fun h' F' N' => h h' q _ F' (by rw [hg]; exact N') e3
end
-- text RulesA
section
variable {prog : Program} {w : World} {A : Around} {E : Value → Shared → Prop} {env : Env}
/-- what a comprehension's source must give, where the list goes to a name at once -/
def SrcA (prog : Program) (w : World) (A : Around) (env : Env) (scope : Scope) (cl : List (Str × Addr)) (x y : Str) (ct : Expr) (px : Pos) (xv : Value) (Q : Flow → Shared → Prop) (E : Value → Shared → Prop) (s₁ : Shared) : Prop :=
  wpAny (model prog w) A (pyIter xv) (fun it s₂ => ∃ I fp wr n P St m, it = .ref I ∧ Walks prog w A I fp wr n P St ∧ n ≤ sizeLine ∧ St 0 s₂.heap ∧ (∀ b ∈ fp, b < s₂.heap.objs.size) ∧
      env.locals ∉ wr ∧ s₂.heap.Ns env.locals m ∧ ∃ p F, QuietOnC prog w A env scope cl x [ct] (.Name x px) wr P p F s₂ ∧
      (∀ D h' tk ys (vs : List Value), s₂.heap.get? D = none → h'.IsList D ys → h'.PlainList D ys → vs.length = n → (∀ j v, vs[j]? = some v → P j v) → Paired F (vs.filter p) ys.toList →
        h'.Ns env.locals (fun z => if z = y then some (.ref D) else m z) → (∀ b o, b ≠ env.locals → b ∉ wr → s₂.heap.get? b = some o → h'.get? b = some o) → Q .next { s₂ with heap := h', toks := tk })) E s₁
end
section
variable {prog : Program} {w : World} {A : Around} {E : Value → Shared → Prop} {env : Env} {s : Shared} {scope : Scope} {cl : List (Str × Addr)} {x y : Str} {ct iter : Expr} {pos spos px py px2 : Pos} {Q : Flow → Shared → Prop}
  {h₀ : Heap} {m : Str → Option Value} {news : List (Addr × Obj)}

theorem compA (hsw : swapsWith (.ListComp (.Name x px2) [⟨.Name x px, iter, [ct], 0⟩] scope pos) (some (.Name y py)) spos.line env = pure true) (hclos : closureFor scope env = pure cl) (hcell : ∀ y ∈ scope.names, y.2 ≠ .cell) (hkind : scope.kind = .function)
    (hnames : ∀ y ∈ scope.names, y.2 = .local → scope.names.lookup y.1 = some .local) (hx : scope.names.lookup x = some .local) (hy : env.kindOf y = some .local) (hp : (env.scope.kind == .class || (env.scope.kind == .module && env.locals != env.globals)) = false)
    (hs : ∀ v, foldedSetIterable iter env v = pure v)
    (h : wpAny (model prog w) A (eval iter env) (fun xv s₁ => SrcA prog w A env scope cl x y ct px2 xv Q E s₁) E s) :
    wpAny (model prog w) A (exec (.Assign [.Name y py] (.ListComp (.Name x px2) [⟨.Name x px, iter, [ct], 0⟩] scope pos) spos) env) Q E s := by
  rw [exec_Assign_Name_used _ _ _ _ hsw]
  refine wpAny_bind (wpAny_standAt (wpAny_bind ?_))
  show wpAny _ A (do let _ ← comprehension (.ListComp (.Name x px2) [⟨.Name x px, iter, [ct], 0⟩] scope pos) scope env _ (newList []) false (eval iter env) (some (assign (.Name y py) env))) _ _ s
  refine wpAny_bind (wpAny_mono (wpAny_comprehension_free (use := some (assign (.Name y py) env)) (Q := fun _ s' => Q .next s') rfl hs hclos hkind hnames
    (wpAny_mono h (fun xv s₁ h₁ => wpAny_mono (h₁ : wpAny _ _ _ _ _ _) (fun it s₂ h₂ => ?_) fun _ _ e => e) fun _ _ e => e)) (fun _ s' hq => wpAny_pure (wpAny_pure hq)) fun _ _ e => e)
  obtain ⟨I, fp, wr, n, P, St, m, rfl, W, hsz, hst, hfp, hLf, hn, p, F, hq, hQ⟩ := h₂
  refine comp_block_walkC (RR := fun acc C => compPost (model prog w) A E (some (assign (.Name y py) env)) (fun _ s' => Q .next s') acc C) W hsz p F hcell hkind hx hst hfp hq ?_
  intro D C h' tk m' ys vs hD hC hDC hnC hlD hplD hlen hP hF hk
  have hLC : env.locals ≠ C := by rintro rfl; obtain ⟨o, _, _, ho, _⟩ := hn; rw [hC] at ho; cases ho
  have hLD : env.locals ≠ D := by rintro rfl; obtain ⟨o, _, _, ho, _⟩ := hn; rw [hD] at ho; cases ho
  show wpAny _ A (assign (.Name y py) env (.ref D)) _ _ _
  refine wpAny_assign_Name (wpAny_storeName_local hy (hn.at' fun o e => hk _ o hLf e) (fun h₂ hn₂ hs₂ => ?_) hp)
  refine ⟨m', hnC.sameBut hs₂ (Ne.symm hLC), fun h₃ hs₃ => ?_⟩
  exact hQ D h₃ _ ys vs hD ((hlD.extBut hs₂.extBut (Ne.symm hLD)).extBut hs₃.extBut hDC) ((hplD.extBut hs₂.extBut (Ne.symm hLD)).extBut hs₃.extBut hDC) hlen hP hF (hn₂.sameBut hs₃ hLC) fun b o hbL hbf e =>
    hs₃.extBut b o (by rintro rfl; rw [hC] at e; cases e) (hs₂.extBut b o hbL (hk b o hbf e))

theorem srcA_list {l : Addr} {vs : List Value} {ks : List Int} (hh : A.handled = none) (F : Fr h₀ env.locals s.heap m) (N : News h₀ env.locals s.heap news) (hl : s.heap.IsList l vs.toArray) (hi : IntsAre vs ks) (hsz : ks.length ≤ 1000) (pz : Int → Bool)
    (hk : scope.kind = .function) (hx : (relabel scope env).names.lookup x = some .local) (hdb : (x == ("__debug__" : Str)) = false)
    (test : ∀ C k t s₃ m₃ E', k ∈ ks → Fr h₀ env.locals s₃.heap m → News h₀ env.locals s₃.heap news → s₃.heap.Ns C m₃ → m₃ x = some (.int k t) →
      wpAny (model prog w) A (isTrue ct (compEnvC scope cl C env) (eval ct (compEnvC scope cl C env))) (TestEnd s₃ (pz k)) E' s₃)
    (fin : ∀ D h' tk vs' n', Fr h₀ env.locals h' (fun z => if z = y then some (.ref D) else m z) → News h₀ env.locals h' ((D, PySem.W.listOf vs'.toArray n') :: news) → (∀ p ∈ news, p.1 ≠ D) → IntsAre vs' (ks.filter pz) → Q .next { s with heap := h', toks := tk }) :
    SrcA prog w A env scope cl x y ct px2 (.ref l) Q E s := by
  obtain ⟨ol, hol, _⟩ := id hl
  have hlt := Heap.lt_size hol
  refine wpAny_pyIter_list hl ?_
  have W := Walks.list (prog := prog) (w := w) hh s.heap.objs.size l (Nat.ne_of_lt hlt) vs.toArray
  have hlen : vs.toArray.size = ks.length := by simp [hi.length]
  rw [hlen] at W
  have hI : h₀.get? s.heap.objs.size = none := by
    cases q : h₀.get? s.heap.objs.size with
    | none => rfl
    | some o => exact absurd (Heap.lt_size (F.keep _ _ q)) (Nat.lt_irrefl _)
  have hIL : env.locals ≠ s.heap.objs.size := Nat.ne_of_lt F.ns.lt
  have hIn : ∀ p ∈ news, p.1 ≠ s.heap.objs.size := fun p hp => Nat.ne_of_lt (Heap.lt_size (N p hp).1)
  have Fp := F.push { cls := .type "list_iterator", data := .fields #[.ref l, .int 0 0] }
  have Np : News h₀ env.locals (s.heap.push { cls := .type "list_iterator", data := .fields #[.ref l, .int 0 0] }) news := fun p hp => ⟨Heap.get?_push_of_some _ (N p hp).1, (N p hp).2⟩
  have hP : ∀ (i : Nat) (v : Value), vs.toArray[i]? = some v → ∃ (k : Int) (t : Tok), ks[i]? = some k ∧ v = Value.int k t := fun i v hv => by
    obtain ⟨k, t, e, h⟩ := IntsAre.at hi i v (by simpa using hv)
    exact ⟨k, t, h, e⟩
  have lift : ∀ h' : Heap, (∀ b o, b ∉ [s.heap.objs.size] → (s.heap.push { cls := .type "list_iterator", data := .fields #[.ref l, .int 0 0] }).get? b = some o → h'.get? b = some o) → Fr h₀ env.locals h' m ∧ News h₀ env.locals h' news := fun h' hk' => by
    obtain ⟨oL, es, ep, hL, r⟩ := Fp.ns
    refine ⟨⟨⟨oL, es, ep, hk' _ _ (by simpa using hIL) hL, r⟩, fun b o e => hk' b o (fun q => ?_) (Fp.keep b o e), Fp.above⟩, fun p hp => ⟨hk' _ _ (by simpa using hIn p hp) (Np p hp).1, (Np p hp).2⟩⟩
    rw [List.mem_singleton.mp q, hI] at e; cases e
  refine ⟨s.heap.objs.size, [s.heap.objs.size, l], [s.heap.objs.size], _, _, _, m, rfl, W, by rw [sizeLine_eq]; omega, ⟨⟨_, Heap.get?_push_size _ rfl, rfl, rfl⟩, hl.at fun o e => Heap.get?_push_of_some _ e⟩, (fun b hb => ?_), by simpa using hIL, Fp.ns, pzV pz, fun v y => y = v, ⟨?_, ?_⟩, ?_⟩
  · show b < (s.heap.push _).objs.size
    rw [Heap.size_push]
    rcases List.mem_cons.mp hb with rfl | hb
    · exact Nat.lt_succ_self _
    · rw [List.mem_singleton.mp hb]; exact Nat.lt_succ_of_lt hlt
  · intro C i v s₃ m₃ E' _ hv hn hm hk' _
    obtain ⟨k, t, hkm, rfl⟩ := hP i v hv
    obtain ⟨F₃, N₃⟩ := lift _ hk'
    exact wpAny_tests_one (test C k t s₃ m₃ E' (List.mem_of_getElem? hkm) F₃ N₃ hn hm)
  · intro C i v s₃ m₃ E' _ hv _ hn hm hk' _
    exact wpAny_Name (wpAny_loadName_local hk hx hn hm ⟨rfl, _, _, rfl, fun _ _ e => e⟩) hdb
  · intro D h' tk ys us hD hlD hpl hlen' hPs hF hns hk'
    obtain ⟨n', hn'⟩ := hpl
    have hv : IntsAre us ks := ints_of hlen' fun j v hj => hP j v (hPs j v hj)
    have hy := paired_same hF
    have hys : ys = (us.filter (pzV pz)).toArray := by rw [← hy]
    have hL₀ : h₀.get? env.locals = none := Heap.get?_none_of_le Fp.above
    have hD0 : s.heap.get? D = none := by
      cases q : s.heap.get? D with
      | none => rfl
      | some o => have := Heap.get?_push_of_some { cls := .type "list_iterator", data := .fields #[.ref l, .int 0 0] } q; rw [show (s.heap.push _).get? D = none from hD] at this; cases this
    refine fin D h' tk (us.filter (pzV pz)) n' ⟨hns, fun b o e => hk' b o (fun q => ?_) (fun q => ?_) (Fp.keep b o e), Fp.above⟩ (fun p hp => ?_) (fun p hp e => ?_) (ints_filter hv)
    · rw [q, hL₀] at e; cases e
    · rw [List.mem_singleton.mp q, hI] at e; cases e
    · rcases List.mem_cons.mp hp with rfl | hp
      · refine ⟨by rw [hn', hys], fun e => ?_, ?_⟩
        · obtain ⟨oL, _, _, hL, _⟩ := F.ns; have e' : D = env.locals := e; rw [← e', hD0] at hL; cases hL
        · cases q : h₀.get? D with
          | none => rfl
          | some o => have := F.keep _ _ q; rw [hD0] at this; cases this
      · exact ⟨hk' _ _ (Np p hp).2.1 (by simpa using hIn p hp) (Np p hp).1, (Np p hp).2⟩
    · have := (N p hp).1; rw [e, hD0] at this; cases this
end
local macro_rules | `(tactic| k_subL) => `(tactic| first | exact List.Mem.head _ | exact mem1 | exact mem2 | exact mem3 | exact mem4 | exact mem5 | (refine' tail6 ?_; k_subL))
local macro_rules | `(tactic| k_all) => `(tactic| first | exact all_nil | (refine all_cons ?a ?b; (case a => k_ne); (case b => k_all)) | exact List.forall_mem_nil _ | (refine' List.forall_mem_cons.mpr ⟨?a, ?b⟩; (case a => k_ne); (case b => k_all)))
local macro_rules | `(tactic| walk_at "MY off") => `(tactic| first | exact off_nl | (refine off_cons ?offa ?offb; (case offa => k_all); (case offb => walk_at "MY off")))
local macro_rules | `(tactic| size_fits) => `(tactic| exact Nat.le_of_ble_eq_true rfl)
local macro_rules | `(tactic| k_room) => `(tactic| first | exact un_geZ (by with_reducible assumption) | exact un_ge (by with_reducible assumption) (by decide) | exact un_ge0 (by with_reducible assumption) (by decide) | exact un_geZ (by assumption) | exact un_ge (by assumption) (by decide) | exact Nat.le_of_ble_eq_true rfl | ((try simp only [depth_under_make, depth_under_kw, depth_in1, depth_deeper, depth_caller]); (try dsimp only [ktrTop]); omega))
local macro_rules | `(tactic| k_units) => `(tactic| first | exact un_ge (by with_reducible assumption) (by decide) | exact un_ge0 (by with_reducible assumption) (by decide) | exact un_ge (by assumption) (by decide) | exact un_ge0 (by assumption) (by decide) | exact Nat.le_of_ble_eq_true rfl | ((have hcL9 := cLine_is); (try simp only [units_in1, units_deeper, Around.mark_units, units_caller]); (try dsimp only [ktrTop]); omega))
local macro_rules | `(tactic| walk_at "MY size") => `(tactic| first | with_reducible assumption | exact Nat.le_of_ble_eq_true rfl | exact Nat.le_trans (by with_reducible assumption) (by decide) | omega | ((try have hL9 := IntsAre.length (by assumption)); omega) | (have hL9 := BysAre.length (by assumption); omega) | ((try simp only [List.length_append, List.length_cons, List.length_nil]); omega))
local macro_rules | `(tactic| k_clsL) => `(tactic| first | with_reducible assumption | exact cj0 (by with_reducible assumption) | exact cj1 (by with_reducible assumption) | exact cj2 (by with_reducible assumption) | exact cj3 (by with_reducible assumption) | exact cj4 (by with_reducible assumption) | exact cj5 (by with_reducible assumption) | exact cj6 (by with_reducible assumption) | exact cj7 (by with_reducible assumption) | exact cj8 (by with_reducible assumption) | exact cj9 (by with_reducible assumption) | exact cj10 (by with_reducible assumption) | exact cj11 (by with_reducible assumption) | exact cj12 (by with_reducible assumption) | exact cj13 (by with_reducible assumption) | exact cj14 (by with_reducible assumption) | exact cj15 (by with_reducible assumption) | exact cj16 (by with_reducible assumption) | exact cj17 (by with_reducible assumption) | exact cj18 (by with_reducible assumption) | exact cj19 (by with_reducible assumption) | exact cj20 (by with_reducible assumption) | exact cj21 (by with_reducible assumption) | exact cj22 (by with_reducible assumption) | exact cj23 (by with_reducible assumption) | exact cj24 (by with_reducible assumption) | exact cj25 (by with_reducible assumption) | exact cj26 (by with_reducible assumption) | exact cj27 (by with_reducible assumption) | exact cj28 (by with_reducible assumption) | exact cj29 (by with_reducible assumption))
local macro_rules | `(tactic| k_ne) => `(tactic| first | exact NeA.ne (by with_reducible assumption) | exact NeA.ne (NeA.symm (by with_reducible assumption)) | exact rk_ne (by with_reducible assumption) (by with_reducible assumption) rfl | exact ne_suc1 (by k_clsL) | exact ne_suc2 (by k_clsL) | exact ne_lt (by k_clsL) | exact ne_gt (by k_clsL) | (refine neN ?_; (try dsimp only); omega))
local macro_rules | `(tactic| k_lt $h:ident) => `(tactic| (replace $h := allLt_of $h; dsimp only [AllLt] at $h:ident))
local macro_rules | `(tactic| walk_at "eval ListComp Name cons") => `(tactic| (k_here; k_dflt (refine compL (by with_unfolding_all rfl) (by decide) (by rfl) (by decide) (by rfl) (by intro _; with_unfolding_all rfl) ?_)))
local macro_rules | `(tactic| walk_at "newTuple") => `(tactic| (k_here; k_dflt (refine' tuple_new ?F ?N ?_ ?z; (case F => k_asm); (case N => k_asm); (case z => exact Nat.le_of_ble_eq_true rfl)); intro D' h' F' N' l1 l2; (try k_lt l1); (try k_sweep)))
local macro_rules | `(tactic| walk_at "compareOp In int ref") => `(tactic| (k_here; k_dflt (first
  | refine dict_in (by k_asm) (by k_subL) (by assumption) (by assumption) (by assumption) ?_
  | refine list_in (by k_asm) (by k_subL) (by assumption) ?_)))
local macro_rules | `(tactic| walk_at "compareOp NotIn int ref") => `(tactic| (k_here; k_dflt (first
  | refine list_notin (by k_asm) (by k_subL) (by assumption) ?_)))
local macro_rules | `(tactic| walk_at "compareOp In bytes ref") => `(tactic| (k_here; k_dflt (refine list_in_by (by k_asm) (by k_subL) (by assumption) ?_)))
local macro_rules | `(tactic| walk_at "compareOp Eq bytes bytes") => `(tactic| (k_here; refine eq_by ?_))
local macro_rules | `(tactic| walk_at "call builtin:len") => `(tactic| (k_here; (with_reducible show wpAny _ _ (call (Value.builtin "len") [Value.ref _]) _ _ _); k_dflt (first
  | (refine' list_len ?N ?p ?z ?_; (case N => k_asm); (case p => k_subL); (case z => walk_at "MY size"))
  | (refine' dict_len ?N ?p ?d ?r ?l ?z ?_; (case N => k_asm); (case p => k_subL); (case d => assumption); (case r => assumption); (case l => assumption); (case z => walk_at "MY size")))))
local macro_rules | `(tactic| walk_at "call builtin:list.append") => `(tactic| (k_here; (with_reducible show wpAny _ _ (call (Value.builtin _) [Value.ref _, _]) _ _ _); k_dflt (refine' list_app ?F ?N ?U ?z ?_; (case F => k_asm); (case N => k_asm); (case U => k_upd); (case z => walk_at "MY size")); intro h' F' N'; (try k_sweep)))
local macro_rules | `(tactic| walk_at "setItem ref int") => `(tactic| (k_here; k_dflt (refine' dict_put ?F ?N ?U ?d ?r ?z ?_; (case F => k_asm); (case N => k_asm); (case U => k_updF); (case d => assumption); (case r => assumption); (case z => walk_at "MY size")); intro h' o' F' N' hd'; (try dsimp only at N'); (try k_sweep)))
local macro_rules | `(tactic| walk_at "MY fill") => `(tactic| (w_top off; have hfill : Mine.hd.heap_39 = Mine.hd.heap_39 ∧ PySem.Challenge.rw_pf0258_01 = PySem.Challenge.rw_pf0258_01 := (by k_fill; exact ⟨rfl, rfl⟩); clear hfill))
local macro_rules | `(tactic| walk_at "MY go") => `(tactic| (k_steps; (all_goals (try (dsimp only; k_steps))); (all_goals (try (dsimp only; k_steps))); (all_goals (try (dsimp only; k_steps)))))
local macro_rules | `(tactic| walk_at "MY sc") => `(tactic| (fail_if_success (with_reducible show wpAny _ _ (call (Value.ref _) _) _ _ _)))
local macro_rules | `(tactic| walk_at "MY sq") => `(tactic| (fail_if_success (with_reducible show wpAny _ _ (compareOp _ (Value.ref _) (Value.ref _)) _ _ _)))
local macro_rules | `(tactic| walk_at "MY sl") => `(tactic| (fail_if_success (with_reducible show wpAny _ _ (newList _) _ _ _)))
local macro_rules | `(tactic| walk_at "MY si") => `(tactic| (fail_if_success (with_reducible show wpAny _ _ (pyIter _) _ _ _)))
local macro_rules | `(tactic| walk_at "MY s0") => `(tactic| first | (k_unfold; (try dsimp only)) | (k_end; wrow_close) | walk1 | (dsimp only; walk1) | (leave1; try dsimp only))
local macro_rules | `(tactic| walk_at "MY st") => `(tactic| first | (with_reducible refine gen_toks fun tk => ?_) | walk_at "MY s0")
local macro_rules | `(tactic| walk_at "MY run") => `(tactic| (repeat' (walk_at "MY sc"; walk_at "MY si"; walk_at "MY s0")))
local macro_rules | `(tactic| walk_at "MY ru0") => `(tactic| (repeat' (walk_at "MY sc"; walk_at "MY sq"; walk_at "MY sl"; walk_at "MY si"; walk_at "MY st")))
local macro_rules | `(tactic| walk_at "MY walk") => `(tactic| (walk_at "MY run"; (all_goals (try (dsimp only; walk_at "MY run"))); (all_goals (try (dsimp only; walk_at "MY run")))))
local macro_rules | `(tactic| walk_at "call builtin:dict.pop") => `(tactic| (k_here; k_dflt (first
  | (refine' dict_pop (more := []) (.inl rfl) (PySem.F.args_dict_pop_2 _ _) ?F ?N ?U ?d ?r ?k ?z ?_; (case F => k_asm); (case N => k_asm); (case U => k_updF); (case d => assumption); (case r => assumption); (case k => assumption); (case z => walk_at "MY size"))
  | (refine' dict_pop (more := [_]) (.inr ⟨_, rfl⟩) (PySem.F.args_dict_pop_3 _ _ _) ?F ?N ?U ?d ?r ?k ?z ?_; (case F => k_asm); (case N => k_asm); (case U => k_updF); (case d => assumption); (case r => assumption); (case k => assumption); (case z => walk_at "MY size"))); intro h' o' v' hv' F' N' hd'; (try dsimp only at N'); (try k_sweep)))
local macro_rules | `(tactic| walk_at "exec For Name") => `(tactic| (k_here; (rename Fr _ _ _ _ => lF'); (with_unfolding_all refine' For_invVF lF' ?k1 ?k2 ?_; (case k1 => exact rfl); (case k2 => exact rfl); k_whole)))
local macro_rules | `(tactic| walk_at "exec For Name Call cons nil") => `(tactic| walk_at "exec For Name")
local macro_rules | `(tactic| walk_at "exec For Name Attribute cons nil") => `(tactic| walk_at "exec For Name")
local macro_rules | `(tactic| walk_at "exec For Name Subscript cons nil") => `(tactic| walk_at "exec For Name")
local macro_rules | `(tactic| walk_at "call builtin:sorted") => `(tactic| (k_here; (with_reducible show wpAny _ _ (call (Value.builtin "sorted") [Value.ref _]) _ _ _); k_dflt (first
  | (refine' list_sorted ?F ?N ?p ?i ?z ?_; (case F => k_asm); (case N => k_asm); (case p => k_subL); (case i => assumption); (case z => walk_at "MY size"); intro D' vs' c' h' F' N' l1 hi'; (try k_lt l1); (try k_sweep))
  | (refine' dict_sorted ?hh ?F ?N ?p ?d ?r ?l ?z ?_; (case hh => rfl); (case F => k_asm); (case N => k_asm); (case p => k_subL); (case d => assumption); (case r => assumption); (case l => assumption); (case z => walk_at "MY size"); intro D' vs' c' h' tk' F' N' l1 hi'; (try k_lt l1); (try k_sweep)))))
local macro_rules | `(tactic| walk_at "subscriptTail Attribute") => `(tactic| (k_here; (with_reducible show wpAny _ _ (subscriptTail _ _ (Value.ref _) (Value.int _ _)) _ _ _); k_dflt (refine' dict_item ?N ?p ?d ?r ?k ?_ ?s ?g; (case N => k_asm); (case p => k_subL); (case d => assumption); (case r => assumption); (case k => assumption); (case s => with_unfolding_all rfl); (case g => (intro _; with_unfolding_all rfl))); intro v' hv'; k_dflt (try (first | (obtain ⟨t', e'⟩ := hv'; subst e') | (obtain ⟨a', tc', tv', e', hti', htok'⟩ := hv'; subst e')))))
local macro_rules | `(tactic| walk_at "getItem ref int") => `(tactic| (k_here; k_dflt (refine' dict_get ?N ?p ?d ?r ?k ?_; (case N => k_asm); (case p => k_subL); (case d => assumption); (case r => assumption); (case k => assumption)); intro v' hv'; k_dflt (try (first | (obtain ⟨t', e'⟩ := hv'; subst e') | (obtain ⟨a', tc', tv', e', hti', htok'⟩ := hv'; subst e')))))
local macro_rules | `(tactic| walk_at "exec Assign cons ListComp") => `(tactic| (k_here; k_dflt (refine compA (by with_unfolding_all rfl) (by with_unfolding_all rfl) (by decide) (by rfl) (by decide) (by rfl) (by rfl) (by rfl) (by intro _; with_unfolding_all rfl) ?_)))
-- text PickN
section
variable {w : World} {mean : ExcName → Option Value} {mg mb : Str → Option Value}
  {dp un : Nat} {gd : Option (List Code)} {cn : Str} {cs : Scope} {a : Addr} {ccd : Value} {cl : List (Str × Addr)} {outer : List Env} {A₀ : Around}
  {base h₀ : Heap} {L : Addr} {m : Str → Option Value} {s : Shared} {Q E : Value → Shared → Prop} {rest : List (Addr × Obj)}
inductive Pen (P : Addr) (c : Int) (pl : List (Addr × Obj)) : Prop
  | mk (S : Addr) (ws : List Value) (ns : List Int) (k₀ : Nat) (z : Int) (t1 t2 : Tok) (n : Nat) (h : pl = [(P, PySem.W.listOf #[.ref S, .int c t1, .int z t2] n), (S, PySem.W.listOf (List.toArray ws) k₀)]) (hi : IntsAre ws ns) (hl : ns.length ≤ 60) (h0 : 0 ≤ z) (h1 : z < 997) (hs : @LT.lt Nat _ S P)
theorem pn_use {R : Prop} {h₀ h : Heap} {L P S : Addr} {ws : List Value} {ns : List Int} {k₀ n : Nat} {c z : Int} {t1 t2 : Tok} {rest : List (Addr × Obj)} (hI : IntsAre ws ns) (hl : ns.length ≤ 60) (h0 : 0 ≤ z) (h1 : z < 997) (hSP : @LT.lt Nat _ S P)
    (N : News h₀ L h ((P, PySem.W.listOf #[.ref S, .int c t1, .int z t2] n) :: (S, PySem.W.listOf (List.toArray ws) k₀) :: rest)) (k : ∀ pl', Pen P c pl' → pl'.map (·.1) = [P, S] → News h₀ L h (pl' ++ rest) → R) : R :=
  k [_, _] ⟨S, ws, ns, k₀, z, t1, t2, n, rfl, hI, hl, h0, h1, hSP⟩ rfl N

set_option maxRecDepth 100000 in
set_option maxHeartbeats 8000000 in
theorem pick_spec (F : Fr h₀ L s.heap m) (B : Below A₀ base outer h₀) (X : (hd.heap_39 w.params).In h₀) (T : Top Mine.view (looseW Mine.view []) mean mg mb h₀) (hk : cs.kind = .function)
    (hdp : dp + 4 * 1 < recursionLimit) (hun : un + 30 * 1 < cLine)
    {P : Addr} {c many : Int} {tm : Tok} {pl : List (Addr × Obj)} (hP : Pen P c pl) (hc0 : 0 ≤ c) (hc1 : c ≤ 60) (hm : 0 < many)
    (N : News h₀ L s.heap (pl ++ rest)) (hoff : Off pl rest)
    (hQ : ∀ k t pl' h' tk', 0 ≤ k → k < many → Pen P (c + 1) pl' → pl'.map (·.1) = pl.map (·.1) → Fr h₀ L h' m → News h₀ L h' (pl' ++ rest) → Q (.int k t) { s with heap := h', toks := tk' }) :
    wpAny (model PG w) (ktrTop dp un gd cn cs L a ccd cl outer) (call (.ref 203) [.ref P, .int many tm]) Q E s := by
  walk_at "MY fill"
  obtain ⟨S, ws, ns, k₀, z, t1, t2, n, rfl, hI, hlen, hz0, hz1, hSP⟩ := hP
  refine call_sub (K := hd.heap_39 w.params) (sub := [(P, PySem.W.listOf #[.ref S, .int c t1, .int z t2] n)]) (rest := (S, PySem.W.listOf (List.toArray ws) k₀) :: rest) (binds := [(Str.ofString "pen", .ref P), (Str.ofString "many", .int many tm)]) B F X T hk N ?_ (by k_is) (by k_is) (by omega) (BindsTo.of_eq rfl) (locs rfl) ?_ rfl rfl rfl (by decide)
  · intro p hp q hq
    rw [List.mem_singleton.mp hp]
    rcases List.mem_cons.mp hq with rfl | hq
    · exact Nat.ne_of_lt hSP
    · exact hoff (P, _) (.head _) q hq
  intro g L' h₁ FG hrest hback hlt F' N' B' X' T'
  have hSL : g.IsList S ws.toArray := ⟨_, hrest (S, _) (.head _), rfl, _, rfl⟩
  clear FG N F B X T hrest
  k_unmd
  k_fold
  k_steps
  all_goals (dsimp only; k_steps)
  all_goals (rename News g L' _ _ => N2; rename Fr g L' _ _ => F2)
  all_goals (refine out_ F2 N2 (fun F₁ N₁ => pn_use hI hlen hz0 hz1 hSP (news_app N₁ (hback _ _ F2)) fun pl' h1 h2 h3 => hQ _ _ pl' _ _ ?_ ?_ h1 h2 F₁ h3))
  all_goals first | exact PyProof.Rows.fmod_lo _ hm | exact PyProof.Rows.fmod_hi _ hm | exact PySem.W.fmod_lo _ hm | exact PySem.W.fmod_hi _ hm
end
-- text World
/-- what the law's own world holds -/
structure Wst where
  lim : Int
  asked : Int
  prior : Int
  now : Int
  mn : List Int
  ever : List By
  fs : List Int
  hs : List Int
  cm : List Int
  wd : List Int
  mt : List Int
/-- the frames that were sent: the i-th is the tuple (i+1, first, id, token) -/
def SentAre (TI : Addr → Obj → Prop) (ever : List By) (vs : List Value) (fs : List Int) : Prop :=
  vs.length = fs.length ∧ ∀ i v, vs[i]? = some v → ∃ a tn tf tc tv f, v = .ref a ∧ fs[i]? = some f ∧ TI a (tupObj [.int (i + 1 : Nat) tn, .int f tf, .bytes (cidOf ever (i + 1 : Nat)) tc, tv]) ∧ TokR (i + 1 : Nat) tv
abbrev wkvs (x : Wst) (MN EV SN HS CM WD MT : Addr) (t1 t2 t3 t4 : Tok) : List (Str × Value) :=
  [(Str.ofString "limit", .int x.lim t1), (Str.ofString "mine", .ref MN), (Str.ofString "ever", .ref EV), (Str.ofString "sent", .ref SN), (Str.ofString "asked", .int x.asked t2), (Str.ofString "has", .ref HS),
   (Str.ofString "came", .ref CM), (Str.ofString "prior", .int x.prior t3), (Str.ofString "word", .ref WD), (Str.ofString "now", .int x.now t4), (Str.ofString "met", .ref MT)]
def RkAll (rk : Addr → Nat) : Nat → List Addr → Prop
  | _, [] => True
  | i, a :: l => Rk rk a i ∧ RkAll rk (i + 1) l
theorem rkAll_congr {rk rk' : Addr → Nat} : ∀ {l : List Addr} {i : Nat}, (∀ a ∈ l, rk a = rk' a) → RkAll rk i l → RkAll rk' i l
  | [], _, _, _ => trivial
  | a :: _, _, h, ⟨h1, h2⟩ => ⟨(h a (.head _)).symm.trans h1, rkAll_congr (fun b hb => h b (.tail _ hb)) h2⟩
theorem ranks {l : List Addr} (h : l.Nodup) : ∀ i, ∃ rk, RkAll rk i l := by
  induction l with
  | nil => exact fun _ => ⟨fun _ => 0, trivial⟩
  | cons a l ih =>
    intro i
    obtain ⟨hn, hd⟩ := List.nodup_cons.mp h
    obtain ⟨rk, hr⟩ := ih hd (i + 1)
    refine ⟨fun b => if b = a then i else rk b, if_pos rfl, rkAll_congr (fun b hb => ?_) hr⟩
    rw [if_neg]
    rintro rfl; exact hn hb
theorem news_pick {g h : Heap} {L a : Addr} {o : Obj} {l r : List (Addr × Obj)} (N : News g L h l) (hm : (a, o) ∈ l) (M : News g L h r) : News g L h ((a, o) :: r) := fun p hp => by
  rcases List.mem_cons.mp hp with rfl | hp
  · exact N _ hm
  · exact M p hp
theorem ints_rep (n : Int) (t : Tok) : ∀ k, IntsAre (List.replicate k [Value.int n t]).flatten (List.replicate k n)
  | 0 => .nil
  | k + 1 => .cons n t (ints_rep n t k)
theorem bytes16 {prog : Program} {w : World} {A : Around} {E : Value → Shared → Prop} {s : Shared} {h₀ : Heap} {L l : Addr} {m : Str → Option Value} {news : List (Addr × Obj)} {n : Int} {t : Tok} {k₀ : Nat} {Q : Value → Shared → Prop} (F : Fr h₀ L s.heap m) (N : News h₀ L s.heap news)
    (hp : (l, PySem.W.listOf (List.replicate (Int.toNat 16) [Value.int n t]).flatten.toArray k₀) ∈ news) (h0 : 0 ≤ n) (h1 : n < 256) (hh : A.handled = none)
    (h : ∀ h' t k, Fr h₀ L h' m → News h₀ L h' news → Q (.bytes (tokB n) t) { s with heap := h', toks := k }) : wpAny (model prog w) A (call (.type "bytes") [.ref l]) Q E s :=
  bytes_K F N ⟨_, (N _ hp).1, rfl, _, rfl⟩ (ints_rep n t 16) (fun m hm => by rw [List.eq_of_mem_replicate hm]; exact ⟨h0, h1⟩) (by rw [sizeLine_eq]; exact Nat.le_trans (Nat.le_of_eq (ints_rep n t 16).length) (by simp)) hh fun h' t k F' N' _ => by
    have := h h' t k F' N'
    rw [List.map_replicate]; exact this
theorem natLt {l : List (Addr × Obj)} {x : Addr} (h : ∀ p ∈ l, p.1 < x) : ∀ p ∈ l, @LT.lt Nat _ p.1 x := h
theorem off_new {g h : Heap} {L : Addr} {l r : List (Addr × Obj)} (N : News g L h l) (hr : ∀ p ∈ r, g.get? p.1 = some p.2) : Off l r := fun p hp q hq e => by
  have h1 := hr q hq
  rw [e, (N p hp).2.2] at h1; cases h1
theorem news_take {g h : Heap} {L : Addr} {l : List (Addr × Obj)} (k : Nat) (N : News g L h l) : News g L h (l.drop k ++ l.take k) := fun p hp => N p (by
  rw [← List.take_append_drop k l]
  exact List.mem_append.mpr ((List.mem_append.mp hp).symm))
inductive Wd (w : World) (TI : Addr → Obj → Prop) (W : Addr) (x : Wst) (wl : List (Addr × Obj)) : Prop
  | mk (MN EV SN HS CM WD MT : Addr) (ow omn : Obj) (mkv : List (Int × Value)) (evs : List Value) (n1 : Nat) (svs : List Value) (n2 : Nat) (hv : List Value) (n3 : Nat) (cv : List Value) (n4 : Nat) (wv : List Value) (n5 : Nat) (mv : List Value) (n6 : Nat) (t1 t2 t3 t4 : Tok)
    (h : wl = [(W, ow), (MN, omn), (EV, PySem.W.listOf (List.toArray evs) n1), (SN, PySem.W.listOf (List.toArray svs) n2), (HS, PySem.W.listOf (List.toArray hv) n3), (CM, PySem.W.listOf (List.toArray cv) n4), (WD, PySem.W.listOf (List.toArray wv) n5), (MT, PySem.W.listOf (List.toArray mv) n6)])
    (how : ow.IsDictOf (PySem.strKind PG w) [(Str.ofString "limit", .int x.lim t1), (Str.ofString "mine", .ref MN), (Str.ofString "ever", .ref EV), (Str.ofString "sent", .ref SN), (Str.ofString "asked", .int x.asked t2), (Str.ofString "has", .ref HS), (Str.ofString "came", .ref CM), (Str.ofString "prior", .int x.prior t3), (Str.ofString "word", .ref WD), (Str.ofString "now", .int x.now t4), (Str.ofString "met", .ref MT)])
    (homn : omn.IsDictOf (PySem.intKind PG w) mkv) (hmkv : DictRel (ByR x.ever) mkv x.mn) (hevs : BysAre evs x.ever) (hsvs : SentAre TI x.ever svs x.fs) (hhv : IntsAre hv x.hs) (hcv : IntsAre cv x.cm) (hwv : IntsAre wv x.wd) (hmv : IntsAre mv x.mt)
    (loW : (W == sysModules) = false) (loM : (MN == sysModules) = false)
-- text Use
section
variable {w : World} {mean : ExcName → Option Value} {mg mb : Str → Option Value}
  {dp un : Nat} {gd : Option (List Code)} {cn : Str} {cs : Scope} {a : Addr} {ccd : Value} {cl : List (Str × Addr)} {outer : List Env} {A₀ : Around}
  {base h₀ : Heap} {L : Addr} {m : Str → Option Value} {s : Shared} {Q E : Value → Shared → Prop} {rest : List (Addr × Obj)}

set_option maxRecDepth 100000 in
set_option maxHeartbeats 8000000 in
theorem use_spec (F : Fr h₀ L s.heap m) (B : Below A₀ base outer h₀) (X : (hd.heap_39 w.params).In h₀) (T : Top Mine.view (looseW Mine.view []) mean mg mb h₀) (hk : cs.kind = .function)
    (hdp : dp + 4 * 1 < recursionLimit) (hun : un + 30 * 1 < cLine)
    {TI : Addr → Obj → Prop} {U : Addr} {lim prior : Int} {ever : List By} {dk : List Int} {σ : Ust} {ul : List (Addr × Obj)} {n : Int} {tn : Tok} (hU : Usr w TI U lim prior ever dk σ ul) (hus : σ.us.length ≤ 100)
    (N : News h₀ L s.heap (ul ++ rest)) (hoff : Off ul rest)
    (hQ : ∀ ul' h' tk', Usr w TI U lim prior ever dk (useU σ n) ul' → ul'.map (·.1) = ul.map (·.1) → Fr h₀ L h' m → News h₀ L h' (ul' ++ rest) → Q .none { s with heap := h', toks := tk' }) :
    wpAny (model PG w) (ktrTop dp un gd cn cs L a ccd cl outer) (call (.ref 158) [.ref U, .int n tn]) Q E s := by
  walk_at "MY fill"
  obtain ⟨dU, KN, US, TD, TR, od, okn, otd, kvs1, kvs2, uvs, n1, tvs, n2, rfl, ⟨t1, t2, t3, t4, t5, t6, t7, t8, u1, u3, u5, rfl⟩, hd1, hr1, hd2, hr2, hu, ht, lo1, lo2, l1, l2, l3, l4, l5⟩ := hU
  refine call_sub (K := hd.heap_39 w.params) (binds := [(Str.ofString "self", .ref U), (Str.ofString "number", .int n tn)]) B F X T hk N hoff (by k_is) (by k_is) (by omega) (BindsTo.of_eq rfl) (locs rfl) ?_ rfl rfl rfl (by decide)
  intro g L' h₁ FG hrest hback hlt F' N' B' X' T'
  clear FG N F B X T hrest hoff
  have hul := hu.length
  k_unmd
  k_fold
  walk_at "MY walk"
  all_goals (refine out_ (by k_asm) (by k_asm) fun F₁ N₁ => ?_; refine hQ _ _ _ ?_ ?_ F₁ (news_app N₁ (hback _ _ (by k_asm))); rotate_left; rfl)
  all_goals refine ⟨dU, KN, US, TD, TR, _, _, _, _, _, _, _, _, _, rfl, ⟨_, _, _, _, _, _, _, _, _, _, _, rfl⟩, hd1, hr1, hd2, hr2, ?_, ht, lo1, lo2, l1, l2, l3, l4, l5⟩
  all_goals show IntsAre _ (addU σ.us n)
  · rw [addU, if_pos (by simp_all)]; exact hu
  · rw [addU, if_neg (by simp_all)]; exact IntsAre.append hu (.cons n _ .nil)
end
-- text Retire
section
variable {w : World} {mean : ExcName → Option Value} {mg mb : Str → Option Value}
  {dp un : Nat} {gd : Option (List Code)} {cn : Str} {cs : Scope} {a : Addr} {ccd : Value} {cl : List (Str × Addr)} {outer : List Env} {A₀ : Around}
  {base h₀ : Heap} {L : Addr} {m : Str → Option Value} {s : Shared} {Q E : Value → Shared → Prop} {rest : List (Addr × Obj)}

set_option maxRecDepth 100000 in
set_option maxHeartbeats 8000000 in
theorem retire_spec (F : Fr h₀ L s.heap m) (B : Below A₀ base outer h₀) (X : (hd.heap_39 w.params).In h₀) (T : Top Mine.view (looseW Mine.view []) mean mg mb h₀) (hk : cs.kind = .function)
    (hdp : dp + 4 * 2 < recursionLimit) (hun : un + 30 * 2 < cLine)
    {TI : Addr → Obj → Prop} {U : Addr} {lim prior : Int} {ever : List By} {dk : List Int} {σ : Ust} {ul : List (Addr × Obj)} {n : Int} {tn : Tok} (hU : Usr w TI U lim prior ever dk σ ul) (hus : σ.us.length ≤ 99) (htr : σ.tr.length ≤ 100) (hkk : σ.kk.length ≤ 60) (hn : n ∈ σ.kk)
    (N : News h₀ L s.heap (ul ++ rest)) (hoff : Off ul rest)
    (hQ : ∀ ul' h' tk', Usr w TI U lim prior ever dk (ret1 σ n) ul' → ul'.map (·.1) = ul.map (·.1) → Fr h₀ L h' m → News h₀ L h' (ul' ++ rest) → Q .none { s with heap := h', toks := tk' }) :
    wpAny (model PG w) (ktrTop dp un gd cn cs L a ccd cl outer) (call (.ref 151) [.ref U, .int n tn]) Q E s := by
  walk_at "MY fill"
  obtain ⟨dU, KN, US, TD, TR, od, okn, otd, kvs1, kvs2, uvs, n1, tvs, n2, rfl, ⟨t1, t2, t3, t4, t5, t6, t7, t8, u1, u3, u5, rfl⟩, hd1, hr1, hd2, hr2, hu, ht, lo1, lo2, l1, l2, l3, l4, l5⟩ := hU
  refine call_sub (K := hd.heap_39 w.params) (binds := [(Str.ofString "self", .ref U), (Str.ofString "number", .int n tn)]) B F X T hk N hoff (by k_is) (by k_is) (by omega) (BindsTo.of_eq rfl) (locs rfl) ?_ rfl rfl rfl (by decide)
  intro g L' h₁ FG hrest hback hlt F' N' B' X' T'
  clear FG N F B X T hrest hoff
  have hul := hu.length
  have htl := ht.length
  have hr3 := hr1.del n
  have hkl : (σ.kk.filter fun j => decide (j ≠ n)).length ≤ σ.kk.length := List.length_filter_le _ _
  k_unmd
  k_fold
  walk_at "MY walk"
  · rename (0 : Int) < _ => hpos
    have hne : dropK σ.kk n ≠ [] := fun e => by
      rw [show (σ.kk.filter fun j => decide (j ≠ n)) = [] from e] at hpos; exact absurd hpos (by decide)
    refine dict_min (by rfl) (by k_asm) (by k_asm) (by k_subL) (by assumption) hr3 lo1 hne ?_
    intro t h' tk' F' N'
    walk_at "MY walk"
    refine use_spec (TI := TI) (ever := ever) (dk := dk) (lim := lim) (prior := prior) (σ := ⟨dropK σ.kk n, σ.us, σ.tr ++ [n], σ.cur⟩) (rest := []) (by k_asm) (by k_asm) (by k_asm) (by k_asm) rfl (by k_room) (by k_units) ?_ (by show σ.us.length ≤ 100; omega) (nilApp N') (offNil _) ?_
    · refine ⟨dU, KN, US, TD, TR, _, _, _, _, _, _, _, _, _, rfl, ⟨_, _, _, _, _, _, _, _, _, _, _, rfl⟩, by assumption, hr3, hd2, hr2, hu, IntsAre.append ht (.cons n _ .nil), lo1, lo2, l1, l2, l3, l4, l5⟩
    intro ul' h' tk' hU' ha' F' N'
    have N' := appNil N'
    walk_at "MY walk"
    refine out_ (by k_asm) (by k_asm) fun F₁ N₁ => ?_
    refine hQ _ _ _ ?_ ?_ F₁ (news_app N₁ (hback _ _ (by k_asm)))
    · rw [ret1, if_pos ⟨by assumption, hne⟩]; exact hU'
    · rw [ha']; rfl
  all_goals (refine out_ (by k_asm) (by k_asm) fun F₁ N₁ => ?_; refine hQ _ _ _ ?_ ?_ F₁ (news_app N₁ (hback _ _ (by k_asm))); rotate_left; rfl)
  all_goals (rw [ret1, if_neg (by simp_all [dropK])])
  all_goals exact ⟨dU, KN, US, TD, TR, _, _, _, _, _, _, _, _, _, rfl, ⟨_, _, _, _, _, _, _, _, _, _, _, rfl⟩, by assumption, hr3, hd2, hr2, hu, IntsAre.append ht (.cons n _ .nil), lo1, lo2, l1, l2, l3, l4, l5⟩
end
-- text Below
section
def retStep (q : Int) (σ : Ust) (n : Int) : Ust := if n < q then ret1 σ n else σ
def retAll (q : Int) (σ : Ust) : Ust := (srt σ.kk).foldl (retStep q) σ

theorem addU_len (us : List Int) (n : Int) : (addU us n).length ≤ us.length + 1 := by
  unfold addU; split <;> simp
theorem ret1_us (σ : Ust) (n : Int) : (ret1 σ n).us.length ≤ σ.us.length + 1 := by
  unfold ret1 useU; dsimp only; split
  · exact addU_len _ _
  · exact Nat.le_succ _
theorem ret1_kk (σ : Ust) (n : Int) : (ret1 σ n).kk = dropK σ.kk n := by
  unfold ret1 useU; dsimp only; split <;> rfl
theorem ret1_tr (σ : Ust) (n : Int) : (ret1 σ n).tr = σ.tr ++ [n] := by
  unfold ret1 useU; dsimp only; split <;> rfl
theorem dropK_mem {kk : List Int} {n k : Int} : k ∈ dropK kk n ↔ k ∈ kk ∧ k ≠ n := by
  unfold dropK; rw [List.mem_filter]; simp
theorem retFold_facts (q : Int) : ∀ (l : List Int) (σ : Ust), let τ := l.foldl (retStep q) σ
    τ.us.length ≤ σ.us.length + l.length ∧ τ.tr.length ≤ σ.tr.length + l.length ∧ τ.kk.length ≤ σ.kk.length ∧ (∀ k ∈ σ.kk, k ∉ l → k ∈ τ.kk) := by
  intro l
  induction l with
  | nil => intro σ; exact ⟨Nat.le_refl _, Nat.le_refl _, Nat.le_refl _, fun k hk _ => hk⟩
  | cons n r ih =>
    intro σ
    obtain ⟨h1, h2, h3, h4⟩ := ih (retStep q σ n)
    have g : (retStep q σ n).us.length ≤ σ.us.length + 1 ∧ (retStep q σ n).tr.length ≤ σ.tr.length + 1 ∧ (retStep q σ n).kk.length ≤ σ.kk.length ∧ ∀ k ∈ σ.kk, k ≠ n → k ∈ (retStep q σ n).kk := by
      unfold retStep
      split
      · refine ⟨ret1_us σ n, by rw [ret1_tr]; simp, by rw [ret1_kk]; exact List.length_filter_le _ _, fun k hk hn => ?_⟩
        rw [ret1_kk]; exact dropK_mem.mpr ⟨hk, hn⟩
      · exact ⟨Nat.le_succ _, Nat.le_succ _, Nat.le_refl _, fun k hk _ => hk⟩
    simp only [List.foldl_cons, List.length_cons]
    refine ⟨by omega, by omega, by omega, fun k hk hn => ?_⟩
    have hn' : k ≠ n ∧ k ∉ r := by simpa using hn
    exact h4 k (g.2.2.2 k hk hn'.1) hn'.2
end
section
variable {w : World} {mean : ExcName → Option Value} {mg mb : Str → Option Value}
  {dp un : Nat} {gd : Option (List Code)} {cn : Str} {cs : Scope} {a : Addr} {ccd : Value} {cl : List (Str × Addr)} {outer : List Env} {A₀ : Around}
  {base h₀ : Heap} {L : Addr} {m : Str → Option Value} {s : Shared} {Q E : Value → Shared → Prop} {rest : List (Addr × Obj)}

set_option maxRecDepth 100000 in
set_option maxHeartbeats 8000000 in
theorem below_spec (F : Fr h₀ L s.heap m) (B : Below A₀ base outer h₀) (X : (hd.heap_39 w.params).In h₀) (T : Top Mine.view (looseW Mine.view []) mean mg mb h₀) (hk : cs.kind = .function)
    (hdp : dp + 4 * 3 < recursionLimit) (hun : un + 30 * 3 < cLine)
    {TI : Addr → Obj → Prop} {U : Addr} {lim prior p : Int} {ever : List By} {dk : List Int} {σ : Ust} {ul : List (Addr × Obj)} {tp : Tok} (hU : Usr w TI U lim prior ever dk σ ul) (hus : σ.us.length ≤ 80) (htr : σ.tr.length ≤ 80) (hkk : σ.kk.length ≤ 15) (hnd : σ.kk.Nodup)
    (N : News h₀ L s.heap (ul ++ rest)) (hoff : Off ul rest)
    (hQ : ∀ ul' h' tk', Usr w TI U lim (max prior p) ever dk (retAll (max prior p) σ) ul' → ul'.map (·.1) = ul.map (·.1) → Fr h₀ L h' m → News h₀ L h' (ul' ++ rest) → Q .none { s with heap := h', toks := tk' }) :
    wpAny (model PG w) (ktrTop dp un gd cn cs L a ccd cl outer) (call (.ref 144) [.ref U, .int p tp]) Q E s := by
  walk_at "MY fill"
  obtain ⟨dU, KN, US, TD, TR, od, okn, otd, kvs1, kvs2, uvs, n1, tvs, n2, rfl, ⟨t1, t2, t3, t4, t5, t6, t7, t8, u1, u3, u5, rfl⟩, hd1, hr1, hd2, hr2, hu, ht, lo1, lo2, l1, l2, l3, l4, l5⟩ := hU
  refine call_sub (K := hd.heap_39 w.params) (binds := [(Str.ofString "self", .ref U), (Str.ofString "prior", .int p tp)]) B F X T hk N hoff (by k_is) (by k_is) (by omega) (BindsTo.of_eq rfl) (locs rfl) ?_ rfl rfl rfl (by decide)
  intro g L' h₁ FG hrest hback hlt F' N' B' X' T'
  clear FG N F B X T hrest hoff
  have hq : max prior p = if p > prior then p else prior := by rw [Int.max_def]; split <;> split <;> omega
  rw [hq] at hQ
  have hsl := srt_len σ.kk
  have hsn : (srt σ.kk).Nodup := (srt_perm σ.kk).nodup_iff.mpr hnd
  k_unmd
  k_fold
  walk_at "MY walk"
  rename News g L' _ _ => N₂; rename Fr g L' _ _ => F₂; rename IntsAre _ (srt σ.kk) => hi
  refine iter_J (fun i ul => Usr w TI U lim (if p > prior then p else prior) ever dk (((srt σ.kk).take i).foldl (retStep (if p > prior then p else prior)) σ) ul) rfl (List.Mem.head _) hi F₂ (news_rot N₂) (by walk_at "MY off") ?_ ?_ ?_
  · exact ⟨dU, KN, US, TD, TR, _, _, _, _, _, _, _, _, _, rfl, ⟨_, _, _, _, _, _, _, _, _, _, _, rfl⟩, hd1, hr1, hd2, hr2, hu, ht, lo1, lo2, l1, l2, l3, l4, l5⟩
  · intro i n t ul h tk own hn ha hoff' hj F' N'
    obtain ⟨g1, g2, g3, g4⟩ := retFold_facts (if p > prior then p else prior) ((srt σ.kk).take i) σ
    have hmem : n ∈ (((srt σ.kk).take i).foldl (retStep (if p > prior then p else prior)) σ).kk := by
      refine g4 n (srt_mem.mp (List.mem_of_getElem? hn)) fun hm => ?_
      obtain ⟨j, hj1, hj2⟩ := List.getElem_of_mem hm
      rw [List.getElem_take] at hj2
      obtain ⟨hi1, hi2⟩ := List.getElem?_eq_some_iff.mp hn
      have hji : j < i := by have := hj1; rw [List.length_take] at this; omega
      exact absurd (hj2.trans hi2.symm) (List.pairwise_iff_getElem.mp hsn j i (by omega) (by omega) hji)
    have hstep : ((srt σ.kk).take (i + 1)).foldl (retStep (if p > prior then p else prior)) σ = retStep (if p > prior then p else prior) (((srt σ.kk).take i).foldl (retStep (if p > prior then p else prior)) σ) n := by
      rw [List.take_add_one, hn, List.foldl_append]; rfl
    have hli : ((srt σ.kk).take i).length ≤ (srt σ.kk).length := by rw [List.length_take]; omega
    rw [hstep]
    have hj0 := hj
    obtain ⟨dU, KN, US, TD, TR, od, okn, otd, kvs1, kvs2, uvs, n1, tvs, n2, rfl, ⟨t1, t2, t3, t4, t5, t6, t7, t8, u1, u3, u5, rfl⟩, hd1, hr1, hd2, hr2, hu, ht, lo1, lo2, l1, l2, l3, l4, l5⟩ := hj
    simp only [List.cons_append, List.nil_append] at N'
    k_unmd
    k_fold
    walk_at "MY walk"
    · rename (n < _) => hnq
      refine retire_spec (rest := (_, _) :: own) (by k_asm) (by k_asm) (by k_asm) (by k_asm) rfl (by k_room) (by k_units) hj0 (by omega) (by omega) (by omega) hmem N' hoff' ?_
      intro ul' h' tk' hU' ha' F' N'
      walk_at "MY walk"
      refine turn_next F' N' (fun y hy => if_neg hy) (ha'.trans ha) ?_
      rw [retStep, if_pos hnq]; exact hU'
    · rename (¬ n < _) => hnq
      refine turn_next F' N' (fun y hy => if_neg hy) ha ?_
      rw [retStep, if_neg hnq]; exact hj0
  · intro v ul h tk hj ha F' N'
    rw [List.take_of_length_le (Nat.le_refl _)] at hj
    walk_at "MY walk"
    refine out_ F' N' fun F₁ N₁ => ?_
    refine hQ ul _ _ hj ha F₁ (news_app (fun p hp => N₁ p (List.mem_append_left _ hp)) (hback _ _ F'))
end
-- text Check
section
variable {w : World} {mean : ExcName → Option Value} {mg mb : Str → Option Value}
  {dp un : Nat} {gd : Option (List Code)} {cn : Str} {cs : Scope} {a : Addr} {ccd : Value} {cl : List (Str × Addr)} {outer : List Env} {A₀ : Around}
  {base h₀ : Heap} {L : Addr} {m : Str → Option Value} {s : Shared} {Q E : Value → Shared → Prop} {rest : List (Addr × Obj)}

theorem eq_by_ne {prog : Program} {w : World} {A : Around} {E : Value → Shared → Prop} {s : Shared} {b c : By} {t u : Tok} {Q : Value → Shared → Prop} (hne : b ≠ c) (h : Q (.bool false) s) : wpAny (model prog w) A (compareOp .Eq (.bytes b t) (.bytes c u)) Q E s :=
  eq_by (by rw [decide_eq_false hne]; exact h)
theorem cid_ne {ever : List By} (hn : ever.Nodup) {i j : Int} (hi0 : 0 ≤ i) (hi : i < ever.length) (hj0 : 0 ≤ j) (hj : j < ever.length) (hij : i ≠ j) : cidOf ever i ≠ cidOf ever j := by
  intro e
  have h1 : i.toNat < ever.length := by omega
  have h2 : j.toNat < ever.length := by omega
  simp only [cidOf, List.getD_eq_getElem?_getD, List.getElem?_eq_getElem h1, List.getElem?_eq_getElem h2, Option.getD_some] at e
  rcases Nat.lt_trichotomy i.toNat j.toNat with h | h | h
  · exact absurd e (List.pairwise_iff_getElem.mp hn _ _ h1 h2 h)
  · omega
  · exact absurd e.symm (List.pairwise_iff_getElem.mp hn _ _ h2 h1 h)

set_option maxRecDepth 100000 in
set_option maxHeartbeats 8000000 in
theorem check_spec (F : Fr h₀ L s.heap m) (B : Below A₀ base outer h₀) (X : (hd.heap_39 w.params).In h₀) (T : Top Mine.view (looseW Mine.view []) mean mg mb h₀) (hk : cs.kind = .function)
    (hdp : dp + 4 * 1 < recursionLimit) (hun : un + 30 * 1 < cLine)
    {TI : Addr → Obj → Prop} {U : Addr} {lim prior n : Int} {ever : List By} {dk : List Int} {σ : Ust} {ul : List (Addr × Obj)} {tn tc : Tok} {tokv : Value} (hU : Usr w TI U lim prior ever dk σ ul) (hTI : ∀ a o, TI a o → Stat h₀ rest a o)
    (hev : ever.Nodup) (hdk0 : ∀ k ∈ dk, 0 ≤ k) (hdk1 : ∀ k ∈ dk, k < (ever.length : Int)) (hn0 : 0 ≤ n) (hn1 : n < (ever.length : Int)) (htok : TokR n tokv)
    (N : News h₀ L s.heap (ul ++ rest)) (hoff : Off ul rest)
    (hQ : ∀ h' tk', Fr h₀ L h' m → News h₀ L h' (ul ++ rest) → Q (.bool (decide (n ∈ dk))) { s with heap := h', toks := tk' }) :
    wpAny (model PG w) (ktrTop dp un gd cn cs L a ccd cl outer) (call (.ref 130) [.ref U, .int n tn, .bytes (cidOf ever n) tc, tokv]) Q E s := by
  walk_at "MY fill"
  obtain ⟨dU, KN, US, TD, TR, od, okn, otd, kvs1, kvs2, uvs, n1, tvs, n2, rfl, ⟨t1, t2, t3, t4, t5, t6, t7, t8, u1, u3, u5, rfl⟩, hd1, hr1, hd2, hr2, hu, ht, lo1, lo2, l1, l2, l3, l4, l5⟩ := hU
  refine call_sub (K := hd.heap_39 w.params) (binds := [(Str.ofString "self", .ref U), (Str.ofString "number", .int n tn), (Str.ofString "cid", .bytes (cidOf ever n) tc), (Str.ofString "token", tokv)]) B F X T hk N hoff (by k_is) (by k_is) (by omega) (BindsTo.of_eq rfl) (locs rfl) ?_ rfl rfl rfl (by decide)
  intro g L' h₁ FG hrest hback hlt F' N' B' X' T'
  have hTIg : ∀ a o, TI a o → g.get? a = some o := fun a o h => (hTI a o h).elim (fun e => FG.keep _ _ e) fun e => hrest _ e
  clear FG N F B X T hrest hoff hTI
  k_unmd
  k_fold
  walk_at "MY walk"
  · refine ne_tup (ti_at (by k_asm) hTIg (by assumption)) (News.get (by k_asm) (List.Mem.head _)) (by k_units) (.cons (at_by _ _ _) (.cons (at_tok (by assumption) htok) .nil)) ?_
    walk_at "MY walk"
    refine out_ (by k_asm) (by k_asm) fun F₁ N₁ => ?_
    rename n ∈ dk => hmem
    rw [decide_eq_true hmem] at hQ
    exact hQ _ _ F₁ (news_app (fun p hp => N₁ p (.tail _ hp)) (hback _ _ (by k_asm)))
  · rename (¬ n ∈ dk) => hnd
    rename Fr g L' _ _ => F₂; rename News g L' _ _ => N₂
    refine iter_D (by rfl) (by k_subL) hd2 hr2 lo2 F₂ N₂ ?_ ?_
    · intro j t h tk own hj F' N'
      simp only [List.cons_append, List.nil_append] at N'
      k_unmd
      k_fold
      walk_at "MY walk"
      rename TI _ _ => hti
      have hat := ti_at F' hTIg hti
      refine item_tupleT ⟨_, hat, rfl, _, rfl⟩ (by decide) (by decide) rfl rfl ?_ (by with_unfolding_all rfl)
      walk1
      refine eq_by_ne (cid_ne hev (hdk0 _ hj) (hdk1 _ hj) hn0 hn1 fun e => hnd (e ▸ hj)) ?_
      walk_at "MY walk"
      exact turn_next (ul := []) F' N' (fun y hy => if_neg hy) rfl trivial
    · intro v h tk F' N'
      walk_at "MY walk"
      refine out_ F' N' fun F₁ N₁ => ?_
      rw [decide_eq_false hnd] at hQ
      exact hQ _ _ F₁ (news_app N₁ (hback _ _ F'))
end
-- text OnNew
section
variable {w : World} {mean : ExcName → Option Value} {mg mb : Str → Option Value}
  {dp un : Nat} {gd : Option (List Code)} {cn : Str} {cs : Scope} {a : Addr} {ccd : Value} {cl : List (Str × Addr)} {outer : List Env} {A₀ : Around}
  {base h₀ : Heap} {L : Addr} {m : Str → Option Value} {s : Shared} {Q E : Value → Shared → Prop} {rest : List (Addr × Obj)}

theorem tupR_mono {TI TI' : Addr → Obj → Prop} (h : ∀ a o, TI a o → TI' a o) {ever : List By} {k : Int} {v : Value} (hv : TupR TI ever k v) : TupR TI' ever k v := by
  obtain ⟨a, tc, tv, e, ht, hk⟩ := hv
  exact ⟨a, tc, tv, e, h _ _ ht, hk⟩
abbrev TIx (TI : Addr → Obj → Prop) (ext : List (Addr × Obj)) : Addr → Obj → Prop := fun a o => TI a o ∨ (a, o) ∈ ext

set_option maxRecDepth 100000 in
set_option maxHeartbeats 8000000 in
theorem onnew_spec (F : Fr h₀ L s.heap m) (B : Below A₀ base outer h₀) (X : (hd.heap_39 w.params).In h₀) (T : Top Mine.view (looseW Mine.view []) mean mg mb h₀) (hk : cs.kind = .function)
    (hdp : dp + 4 * 4 < recursionLimit) (hun : un + 30 * 4 < cLine)
    {TI : Addr → Obj → Prop} {U : Addr} {lim prior n p : Int} {ever : List By} {dk : List Int} {σ : Ust} {ul : List (Addr × Obj)} {tn tp tc : Tok} {tokv : Value} (hU : Usr w TI U lim prior ever dk σ ul) (hTI : ∀ a o, TI a o → Stat h₀ rest a o)
    (hev : ever.Nodup) (hdk0 : ∀ k ∈ dk, 0 ≤ k) (hdk1 : ∀ k ∈ dk, k < (ever.length : Int)) (hn0 : 0 ≤ n) (hn1 : n < (ever.length : Int)) (htok : TokR n tokv)
    (hus : σ.us.length ≤ 80) (htr : σ.tr.length ≤ 80) (hkk : σ.kk.length ≤ 10) (hnd : σ.kk.Nodup) (hdl : dk.length ≤ 80) (hsub : ∀ k ∈ σ.kk, k ∈ dk)
    (hlim : n ∉ dk → ¬ n < prior → ((retAll (max prior p) { σ with kk := σ.kk ++ [n] }).kk.length : Int) ≤ lim)
    (N : News h₀ L s.heap (ul ++ rest)) (hoff : Off ul rest)
    (hA : n ∈ dk → n ∈ σ.kk → ∀ ul' h' tk', Usr w TI U lim (max prior p) ever dk (retAll (max prior p) σ) ul' → ul'.map (·.1) = ul.map (·.1) → Fr h₀ L h' m → News h₀ L h' (ul' ++ rest) → Q .none { s with heap := h', toks := tk' })
    (hB : n ∈ dk → n ∉ σ.kk → ∀ h' tk', Fr h₀ L h' m → News h₀ L h' (ul ++ rest) → Q .none { s with heap := h', toks := tk' })
    (hC : n ∉ dk → n < prior → ∀ ul' e₁ h' tk', Usr w (TIx TI [e₁]) U lim prior ever (dk ++ [n]) { σ with tr := σ.tr ++ [n] } ul' → ul'.map (·.1) = ul.map (·.1) → (∀ p ∈ [e₁], ∀ q ∈ ul ++ rest, @LT.lt Nat _ q.1 p.1) → Fr h₀ L h' m → News h₀ L h' (ul' ++ ([e₁] ++ rest)) → Q .none { s with heap := h', toks := tk' })
    (hD : n ∉ dk → ¬ n < prior → ∀ ul' e₁ e₂ h' tk', Usr w (TIx TI [e₁, e₂]) U lim (max prior p) ever (dk ++ [n]) (retAll (max prior p) { σ with kk := σ.kk ++ [n] }) ul' → ul'.map (·.1) = ul.map (·.1) → (∀ p ∈ [e₁, e₂], ∀ q ∈ ul ++ rest, @LT.lt Nat _ q.1 p.1) → Fr h₀ L h' m → News h₀ L h' (ul' ++ ([e₁, e₂] ++ rest)) → Q .none { s with heap := h', toks := tk' }) :
    wpAny (model PG w) (ktrTop dp un gd cn cs L a ccd cl outer) (call (.ref 137) [.ref U, .int n tn, .int p tp, .bytes (cidOf ever n) tc, tokv]) Q E s := by
  walk_at "MY fill"
  have hU0 := hU
  obtain ⟨dU, KN, US, TD, TR, od, okn, otd, kvs1, kvs2, uvs, n1, tvs, n2, rfl, ⟨t1, t2, t3, t4, t5, t6, t7, t8, u1, u3, u5, rfl⟩, hd1, hr1, hd2, hr2, hu, ht, lo1, lo2, l1, l2, l3, l4, l5⟩ := hU
  refine call_sub (K := hd.heap_39 w.params) (binds := [(Str.ofString "self", .ref U), (Str.ofString "number", .int n tn), (Str.ofString "prior", .int p tp), (Str.ofString "cid", .bytes (cidOf ever n) tc), (Str.ofString "token", tokv)]) B F X T hk N hoff (by k_is) (by k_is) (by omega) (BindsTo.of_eq rfl) (locs rfl) ?_ rfl rfl rfl (by decide)
  intro g L' h₁ FG hrest hback hlt F' N' B' X' T'
  have hTIg : ∀ a o, TI a o → Stat g [] a o := fun a o h => .inl ((hTI a o h).elim (fun e => FG.keep _ _ e) fun e => hrest _ e)
  clear FG N F B X T hrest hoff hTI
  have hul := hu.length
  have htl := ht.length
  k_unmd
  k_fold
  walk_at "MY walk"
  refine check_spec (rest := []) (by k_asm) (by k_asm) (by k_asm) (by k_asm) rfl (by k_room) (by k_units) hU0 hTIg hev hdk0 hdk1 hn0 hn1 htok (nilApp N') (offNil _) ?_
  intro h' tk' F' N'
  have N' := appNil N'
  walk_at "MY walk"
  · refine below_spec (rest := []) (by k_asm) (by k_asm) (by k_asm) (by k_asm) rfl (by k_room) (by k_units) hU0 hus htr (by omega) hnd (nilApp N') (offNil _) ?_
    intro ul' h' tk' hU' ha' F' N'
    have N' := appNil N'
    walk_at "MY walk"
    exact out_ F' N' fun F₁ N₁ => hA (by assumption) (by assumption) ul' _ _ hU' ha' F₁ (news_app N₁ (hback _ _ F'))
  · exact out_ F' N' fun F₁ N₁ => hB (by assumption) (by assumption) _ _ F₁ (news_app N₁ (hback _ _ F'))
  · rename (¬ n ∈ dk) => hnin
    refine out_ (by k_asm) (by k_asm) fun F₁ N₁ => ?_
    refine hC hnin (by assumption) _ _ _ _ ?_ ?_ ?_ F₁ (news_ext1 N₁ (hback _ _ (by k_asm)))
    · refine ⟨dU, KN, US, TD, TR, _, _, _, _, _, _, _, _, _, rfl, ⟨_, _, _, _, _, _, _, _, _, _, _, rfl⟩, hd1, hr1.mono fun k v _ h => tupR_mono (fun _ _ => .inl) h, by assumption, ?_, hu, IntsAre.append ht (.cons n _ .nil), lo1, lo2, l1, l2, l3, l4, l5⟩
      exact (hr2.mono fun k v _ h => tupR_mono (fun _ _ => .inl) h).put hnin ⟨_, tc, tokv, rfl, .inr (.head _), htok⟩
    · rfl
    · intro p hp q hq
      rw [List.mem_singleton.mp hp]
      exact Nat.lt_trans (hlt q hq) (by assumption)
  · rename (¬ n ∈ dk) => hnin
    rename (¬ n < prior) => hnp
    have hnk : n ∉ σ.kk := fun h => hnin (hsub n h)
    have hl := hlim hnin hnp
    rename News g L' _ _ => N₂
    refine use2 N₂ ?_
    intro ext ul' hext hul' N₃
    refine below_spec (TI := TIx TI ext) (ul := ul') (rest := ext) (lim := lim) (prior := prior) (ever := ever) (dk := dk ++ [n]) (σ := { σ with kk := σ.kk ++ [n] }) (by k_asm) (by k_asm) (by k_asm) (by k_asm) rfl (by k_room) (by k_units) ?_ hus htr ?_ ?_ N₃ ?_ ?_
    · rw [hul']
      refine ⟨dU, KN, US, TD, TR, _, _, _, _, _, _, _, _, _, rfl, ⟨_, _, _, _, _, _, _, _, _, _, _, rfl⟩, by assumption, ?_, by assumption, ?_, hu, ht, lo1, lo2, l1, l2, l3, l4, l5⟩
      · exact (hr1.mono fun k v _ h => tupR_mono (fun _ _ => .inl) h).put hnk ⟨_, tc, tokv, rfl, .inr (by rw [hext]; exact .head _), htok⟩
      · exact (hr2.mono fun k v _ h => tupR_mono (fun _ _ => .inl) h).put hnin ⟨_, tc, tokv, rfl, .inr (by rw [hext]; exact .tail _ (.head _)), htok⟩
    · show (σ.kk ++ [n]).length ≤ 15
      rw [List.length_append]; simp only [List.length_cons, List.length_nil]; omega
    · show (σ.kk ++ [n]).Nodup
      rw [List.nodup_append]
      exact ⟨hnd, by simp, fun a ha b hb e => hnk (by rw [List.mem_singleton.mp hb] at e; exact e ▸ ha)⟩
    · rw [hext, hul']; walk_at "MY off"
    intro ul₂ h' tk' hU' ha' F' N'
    have hU2 := hU'
    obtain ⟨dU, KN, US, TD, TR, od, okn, otd, kvs1, kvs2, uvs, n1, tvs, n2, rfl, ⟨t1, t2, t3, t4, t5, t6, t7, t8, u1, u3, u5, rfl⟩, hd1, hr1, hd2, hr2, hu, ht, lo1, lo2, l1, l2, l3, l4, l5⟩ := hU'
    have N₄ := N'
    simp only [List.cons_append, List.nil_append] at N'
    have hk3 := (retFold_facts (max prior p) (srt (σ.kk ++ [n])) { σ with kk := σ.kk ++ [n] }).2.2.1
    have hk4 : (retAll (max prior p) { σ with kk := σ.kk ++ [n] }).kk.length ≤ 11 := by
      refine Nat.le_trans hk3 ?_
      show (σ.kk ++ [n]).length ≤ 11
      rw [List.length_append]; simp only [List.length_cons, List.length_nil]; omega
    walk_at "MY walk"
    have hfr : ∀ p ∈ ext, ∀ q ∈ _ ++ rest, @LT.lt Nat _ q.1 p.1 := fun p hp q hq => by
      rw [hext] at hp
      rcases List.mem_cons.mp hp with rfl | hp
      · exact Nat.lt_trans (hlt q hq) (by assumption)
      · rw [List.mem_singleton.mp hp]; exact Nat.lt_trans (hlt q hq) (by assumption)
    refine out_ F' N₄ fun F₁ N₁ => ?_
    have N₅ := news_ass N₁ (hback _ _ F')
    have ha₂ := ha'
    rw [hul'] at ha₂
    obtain ⟨e₁, e₂, he⟩ : ∃ e₁ e₂, ext = [e₁, e₂] := ⟨_, _, hext⟩
    clear hext hul'
    subst he
    exact hD hnin hnp _ e₁ e₂ _ _ hU2 ha₂ hfr F₁ N₅
end
-- text Defs
theorem off_ne {l r : List (Addr × Obj)} {a b : Addr} {o o' : Obj} (h : Off l r) (ha : (a, o) ∈ l) (hb : (b, o') ∈ r) : b ≠ a := h _ ha _ hb
theorem list_add {prog : Program} {w : World} {A : Around} {E : Value → Shared → Prop} {s : Shared} {h₀ : Heap} {L : Addr} {m : Str → Option Value} {news : List (Addr × Obj)} {l b : Addr} {vs ws : List Value} {ns ms : List Int} {n k : Nat} {Q : Value → Shared → Prop} (F : Fr h₀ L s.heap m) (N : News h₀ L s.heap news)
    (hl : (l, PySem.W.listOf vs.toArray n) ∈ news) (hb : (b, PySem.W.listOf ws.toArray k) ∈ news) (hi : IntsAre vs ns) (hj : IntsAre ws ms) (hsz : ns.length + ms.length ≤ 1000)
    (h : ∀ D h', Fr h₀ L h' m → News h₀ L h' ((D, PySem.W.listOf (vs ++ ws).toArray 0) :: news) → (∀ p ∈ news, @LT.lt Nat _ p.1 D) → IntsAre (vs ++ ws) (ns ++ ms) → Q (.ref D) { s with heap := h' }) : wpAny (model prog w) A (binaryOp .Add (.ref l) (.ref b)) Q E s :=
  add_lists_ints F N ⟨_, (N _ hl).1, rfl, _, rfl⟩ ⟨_, (N _ hb).1, rfl, _, rfl⟩ hi hj (fun h' F' N' hI => h _ h' F' N' (fun p hp => Heap.lt_size (N p hp).1) hI) (by rw [sizeLine_eq]; omega)

def tailW (p : Int) (y : Wst) : Wst :=
  let q := max y.prior p
  let hs' := (srt y.hs).filter fun k => decide (q ≤ k)
  let y1 : Wst := { y with prior := q, wd := y.wd ++ (srt y.hs).filter (fun k => decide (k < q)), hs := hs' }
  if y.now ∈ hs' then y1 else { y1 with now := hs'.headD 0, mt := y.mt ++ [hs'.headD 0] }

theorem sent_mono {TI TI' : Addr → Obj → Prop} (h : ∀ a o, TI a o → TI' a o) {ever : List By} {vs : List Value} {fs : List Int} (hs : SentAre TI ever vs fs) : SentAre TI' ever vs fs :=
  ⟨hs.1, fun i v hv => let ⟨a, tn, tf, tc, tv, f, e1, e2, e3, e4⟩ := hs.2 i v hv; ⟨a, tn, tf, tc, tv, f, e1, e2, h _ _ e3, e4⟩⟩
theorem wd_mono {w : World} {TI TI' : Addr → Obj → Prop} (h : ∀ a o, TI a o → TI' a o) {W : Addr} {x : Wst} {wl : List (Addr × Obj)} (hW : Wd w TI W x wl) : Wd w TI' W x wl := by
  obtain ⟨MN, EV, SN, HS, CM, WD, MT, ow, omn, mkv, evs, n1, svs, n2, hv, n3, cv, n4, wv, n5, mv, n6, t1, t2, t3, t4, rfl, how, homn, hmkv, hevs, hsvs, hhv, hcv, hwv, hmv, loW, loM⟩ := hW
  exact ⟨MN, EV, SN, HS, CM, WD, MT, ow, omn, mkv, evs, n1, svs, n2, hv, n3, cv, n4, wv, n5, mv, n6, t1, t2, t3, t4, rfl, how, homn, hmkv, hevs, sent_mono h hsvs, hhv, hcv, hwv, hmv, loW, loM⟩
theorem usr_mono {w : World} {TI TI' : Addr → Obj → Prop} (h : ∀ a o, TI a o → TI' a o) {U : Addr} {lim prior : Int} {ever : List By} {dk : List Int} {σ : Ust} {ul : List (Addr × Obj)} (hU : Usr w TI U lim prior ever dk σ ul) : Usr w TI' U lim prior ever dk σ ul := by
  obtain ⟨dU, KN, US, TD, TR, od, okn, otd, kvs1, kvs2, uvs, u1, tvs, u2, rfl, hD, hd1, hr1, hd2, hr2, hu, ht, lo1, lo2, l1, l2, l3, l4, l5⟩ := hU
  exact ⟨dU, KN, US, TD, TR, od, okn, otd, kvs1, kvs2, uvs, u1, tvs, u2, rfl, hD, hd1, hr1.mono fun k v _ hv => tupR_mono h hv, hd2, hr2.mono fun k v _ hv => tupR_mono h hv, hu, ht, lo1, lo2, l1, l2, l3, l4, l5⟩
theorem off_app {l r r' : List (Addr × Obj)} (h : Off l r) (h' : Off l r') : Off l (r ++ r') := fun p hp q hq => (List.mem_append.mp hq).elim (h p hp q) (h' p hp q)

theorem tailW_in {p : Int} {y : Wst} {hs' : List Int} (hl : ((srt y.hs).filter fun k => decide (max y.prior p ≤ k)) = hs') (h : y.now ∈ hs') :
    tailW p y = { y with prior := max y.prior p, wd := y.wd ++ (srt y.hs).filter (fun k => decide (k < max y.prior p)), hs := hs' } := by subst hl; exact if_pos h
theorem tailW_out {p : Int} {y : Wst} {hs' : List Int} (hl : ((srt y.hs).filter fun k => decide (max y.prior p ≤ k)) = hs') (h : ¬ y.now ∈ hs') :
    tailW p y = { y with prior := max y.prior p, wd := y.wd ++ (srt y.hs).filter (fun k => decide (k < max y.prior p)), hs := hs', now := hs'.headD 0, mt := y.mt ++ [hs'.headD 0] } := by subst hl; exact if_neg h
theorem tailW_prior (p : Int) (y : Wst) : (tailW p y).prior = max y.prior p := by unfold tailW; dsimp only; split <;> rfl
theorem tailW_ever (p : Int) (y : Wst) : (tailW p y).ever = y.ever := by unfold tailW; dsimp only; split <;> rfl
theorem notmem_cons {a b : Addr} {l : List Addr} (h : a ≠ b) (h' : a ∉ l) : a ∉ b :: l := fun hm => (List.mem_cons.mp hm).elim h h'
/-- what a frame that comes does -/
inductive Come (x : Wst) (σ : Ust) (dk : List Int) (n p : Int) : Wst → Ust → List Int → Prop
  | again : n ∈ dk → n ∈ σ.kk → Come x σ dk n p (tailW p x) (retAll (max x.prior p) σ) dk
  | gone : n ∈ dk → n ∉ σ.kk → Come x σ dk n p x σ dk
  | late : n ∉ dk → n < x.prior → Come x σ dk n p { x with cm := x.cm ++ [n], wd := x.wd ++ [n] } { σ with tr := σ.tr ++ [n] } (dk ++ [n])
  | fresh : n ∉ dk → ¬ n < x.prior → Come x σ dk n p (tailW p { x with cm := x.cm ++ [n], hs := x.hs ++ [n] }) (retAll (max x.prior p) { σ with kk := σ.kk ++ [n] }) (dk ++ [n])
def dropAll (mk l : List Int) : List Int := l.foldl dropK mk
theorem mem_dropAll {l : List Int} : ∀ {mk : List Int} {k : Int}, k ∈ dropAll mk l ↔ k ∈ mk ∧ k ∉ l := by
  induction l with
  | nil => intro mk k; simp [dropAll]
  | cons n l ih =>
    intro mk k
    show k ∈ dropAll (dropK mk n) l ↔ _
    rw [ih, dropK_mem]
    simp only [List.mem_cons, not_or, and_assoc]
theorem dropAll_snoc (mk l : List Int) (n : Int) : dropAll mk (l ++ [n]) = dropK (dropAll mk l) n := by simp [dropAll, List.foldl_append]
theorem off_loop {l r : List (Addr × Obj)} {z : Addr × Obj} (h : Off (l ++ [z]) r) (hz : ∀ p ∈ l, p.1 ≠ z.1) : Off l (z :: r) := fun p hp q hq => by
  rcases List.mem_cons.mp hq with rfl | hq
  · exact Ne.symm (hz p hp)
  · exact h p (List.mem_append_left _ hp) q hq
theorem dropAll_len (l : List Int) : ∀ mk : List Int, (dropAll mk l).length ≤ mk.length := by
  induction l with
  | nil => exact fun _ => Nat.le_refl _
  | cons n l ih => exact fun mk => Nat.le_trans (ih (dropK mk n)) (List.length_filter_le _ _)
theorem news_right {g h : Heap} {L : Addr} {l r : List (Addr × Obj)} (N : News g L h (l ++ r)) : News g L h r := fun p hp => N p (List.mem_append_right _ hp)
-- text Fresh
section
variable {w : World} {mean : ExcName → Option Value} {mg mb : Str → Option Value}
  {dp un : Nat} {gd : Option (List Code)} {cn : Str} {cs : Scope} {a : Addr} {ccd : Value} {cl : List (Str × Addr)} {outer : List Env} {A₀ : Around}
  {base h₀ : Heap} {L : Addr} {m : Str → Option Value} {s : Shared} {Q E : Value → Shared → Prop} {rest : List (Addr × Obj)}

def leftOf (σ : Ust) : List Int := (srt σ.kk).filter fun k => !decide (k ∈ σ.us)

set_option maxRecDepth 100000 in
set_option maxHeartbeats 8000000 in
theorem fresh_spec (F : Fr h₀ L s.heap m) (B : Below A₀ base outer h₀) (X : (hd.heap_39 w.params).In h₀) (T : Top Mine.view (looseW Mine.view []) mean mg mb h₀) (hk : cs.kind = .function)
    (hdp : dp + 4 * 1 < recursionLimit) (hun : un + 30 * 1 < cLine)
    {TI : Addr → Obj → Prop} {U : Addr} {lim prior : Int} {ever : List By} {dk : List Int} {σ : Ust} {ul : List (Addr × Obj)} (hU : Usr w TI U lim prior ever dk σ ul) (hkk : σ.kk.length ≤ 15)
    (N : News h₀ L s.heap (ul ++ rest)) (hoff : Off ul rest)
    (hN : leftOf σ = [] → ∀ h' tk', Fr h₀ L h' m → News h₀ L h' (ul ++ rest) → Q .none { s with heap := h', toks := tk' })
    (hS : ∀ k r t, leftOf σ = k :: r → ∀ h' tk', Fr h₀ L h' m → News h₀ L h' (ul ++ rest) → Q (.int k t) { s with heap := h', toks := tk' }) :
    wpAny (model PG w) (ktrTop dp un gd cn cs L a ccd cl outer) (call (.ref 170) [.ref U]) Q E s := by
  walk_at "MY fill"
  obtain ⟨dU, KN, US, TD, TR, od, okn, otd, kvs1, kvs2, uvs, n1, tvs, n2, rfl, ⟨t1, t2, t3, t4, t5, t6, t7, t8, u1, u3, u5, rfl⟩, hd1, hr1, hd2, hr2, hu, ht, lo1, lo2, l1, l2, l3, l4, l5⟩ := hU
  refine call_subC (K := hd.heap_39 w.params) (binds := [(Str.ofString "self", .ref U)]) B F X T hk N hoff (by k_is) (by k_is) (by omega) (BindsTo.of_eq rfl) (by rfl) (by decide +kernel) ?_ rfl rfl rfl
  intro g L' h₁ tk cells FG hrest hback hlt F' N' Y' B' X' T'
  k_cells Y'
  simp only [List.cons_append, List.nil_append] at N'
  clear FG N F B X T hrest hoff hlt
  have hsl := srt_len σ.kk
  k_unmd
  k_fold
  walk_at "MY walk"
  rename News g L' _ _ => N₂; rename Fr g L' _ _ => F₂; rename IntsAre _ (srt σ.kk) => hi
  refine srcA_list (by rfl) F₂ N₂ ⟨_, (N₂ _ (List.Mem.head _)).1, rfl, _, rfl⟩ hi (by omega) (fun k => !decide (k ∈ σ.us)) (by rfl) (by with_unfolding_all rfl) (by decide) ?_ ?_
  · intro C k t s₃ m₃ E' hkm F' N' hC hx
    walk_at "MY walk"
    exact testEnd rfl
  · intro D h' tk' vs' n' F' N' hD hI'
    have hI2 : IntsAre vs' (leftOf σ) := hI'
    clear hI'
    generalize hl : leftOf σ = left at hI2
    cases hI2 with
    | nil =>
      walk_at "MY walk"
      refine out_ (by k_asm) (by k_asm) fun F₁ N₁ => ?_
      exact hN hl _ _ F₁ (news_app (fun p hp => N₁ p (by simp only [List.mem_cons] at hp ⊢; simp_all)) (hback _ _ (by k_asm)))
    | cons k t hI2 =>
      have hlen := hI2.length
      have hll : (leftOf σ).length ≤ 15 := Nat.le_trans (List.length_filter_le _ _) (by omega)
      rw [hl, List.length_cons] at hll
      walk_at "MY walk"
      · refine out_ (by k_asm) (by k_asm) fun F₁ N₁ => ?_
        exact hS k _ _ hl _ _ F₁ (news_app (fun p hp => N₁ p (by simp only [List.mem_cons] at hp ⊢; simp_all)) (hback _ _ (by k_asm)))
      · exfalso
        rename (¬ (0 : Int) < _) => hh
        rw [List.length_cons] at hh
        omega
end
-- text Pure
theorem sub_len : ∀ {l l' : List Int}, l.Nodup → (∀ a ∈ l, a ∈ l') → l.length ≤ l'.length
  | [], _, _, _ => Nat.zero_le _
  | a :: l, l', hn, hs => by
    obtain ⟨h1, h2⟩ := List.nodup_cons.mp hn
    have ha := hs a (.head _)
    have := sub_len (l' := l'.erase a) h2 fun b hb => (List.mem_erase_of_ne (by rintro rfl; exact h1 hb)).mpr (hs b (.tail _ hb))
    rw [List.length_erase_of_mem ha] at this
    have hp : 0 < l'.length := List.length_pos_of_mem ha
    simp only [List.length_cons]; omega
theorem srt_of_perm {l l' : List Int} (h : l.Perm l') : srt l = srt l' := srt_eq ((srt_perm l).trans h) (srt_sorted l)
theorem srt_id {l : List Int} (h : l.Pairwise (· ≤ ·)) : srt l = l := (srt_eq (List.Perm.refl l) h).symm
theorem srt_srt (l : List Int) : srt (srt l) = srt l := srt_of_perm (srt_perm l)
theorem srt_filter (p : Int → Bool) (l : List Int) : (srt l).filter p = srt (l.filter p) := srt_eq ((srt_perm l).filter p) ((srt_sorted l).filter p)
theorem minI_mem {l : List Int} (h : l ≠ []) : minI l ∈ l ∧ ∀ a ∈ l, minI l ≤ a := by
  unfold minI
  have hs := srt_sorted l
  cases e : srt l with
  | nil =>
    have := srt_len l
    rw [e] at this
    exact absurd (List.length_eq_zero_iff.mp this.symm) h
  | cons x r =>
    rw [e] at hs
    refine ⟨srt_mem.mp (by rw [e]; exact .head _), fun a ha => ?_⟩
    have ha' : a ∈ srt l := srt_mem.mpr ha
    rw [e] at ha'
    rcases List.mem_cons.mp ha' with q | q
    · exact Int.le_of_eq q.symm
    · exact (List.pairwise_cons.mp hs).1 a q
theorem addU_mem {us : List Int} {n k : Int} : k ∈ addU us n ↔ k ∈ us ∨ k = n := by
  unfold addU; split
  · constructor
    · exact .inl
    · rintro (h | rfl) <;> assumption
  · simp
theorem addU_nodup {us : List Int} {n : Int} (h : us.Nodup) : (addU us n).Nodup := by
  unfold addU; split
  · exact h
  · rw [List.nodup_append]
    refine ⟨h, by simp, fun a ha b hb => ?_⟩
    rw [List.mem_singleton.mp hb]; rintro rfl; contradiction
abbrev atl (q : Int) (l : List Int) : List Int := l.filter fun k => decide (q ≤ k)
abbrev blw (q : Int) (l : List Int) : List Int := l.filter fun k => decide (k < q)
theorem atl_mem {q k : Int} {l : List Int} : k ∈ atl q l ↔ k ∈ l ∧ q ≤ k := by unfold atl; rw [List.mem_filter]; simp
theorem blw_mem {q k : Int} {l : List Int} : k ∈ blw q l ↔ k ∈ l ∧ k < q := by unfold blw; rw [List.mem_filter]; simp
theorem atl_drop {q n : Int} {l : List Int} (h : n < q) : atl q (dropK l n) = atl q l := by
  unfold atl dropK
  rw [List.filter_filter]
  refine List.filter_congr fun k _ => ?_
  by_cases hq : q ≤ k
  · have : k ≠ n := by omega
    simp [hq, this]
  · simp [hq]
theorem ret_fold (q : Int) : ∀ (l : List Int) (σ : Ust), l.Pairwise (· < ·) → (∀ k ∈ l, k ∈ σ.kk) → (∀ k ∈ σ.kk, k ∈ l ∨ q ≤ k) → σ.cur ∈ σ.kk → atl q σ.kk ≠ [] →
    let τ := l.foldl (retStep q) σ
    τ.kk = atl q σ.kk ∧ τ.tr = σ.tr ++ blw q l ∧ (τ.cur = if q ≤ σ.cur then σ.cur else minI (atl q σ.kk)) ∧ (∀ k, q ≤ k → (k ∈ τ.us ↔ k ∈ σ.us ∨ (σ.cur < q ∧ k = minI (atl q σ.kk)))) ∧ (∀ k ∈ τ.us, k ∈ σ.us ∨ k ∈ σ.kk) ∧ (∀ k ∈ σ.us, k ∈ τ.us) ∧ (σ.us.Nodup → τ.us.Nodup) := by
  intro l
  induction l with
  | nil =>
    intro σ _ _ h3 h4 h5
    have hall : ∀ k ∈ σ.kk, q ≤ k := fun k hk => (h3 k hk).elim (fun e => nomatch e) id
    have hc := hall _ h4
    refine ⟨?_, by simp [blw], by simp [hc], fun k hk => ?_, fun k hk => .inl hk, fun k hk => hk, id⟩
    · show σ.kk = _
      unfold atl
      rw [List.filter_eq_self.mpr fun k hk => by simpa using hall k hk]
    · have : ¬ σ.cur < q := by omega
      simp [this]
  | cons n r ih =>
    intro σ h1 h2 h3 h4 h5
    obtain ⟨h1a, h1b⟩ := List.pairwise_cons.mp h1
    simp only [List.foldl_cons]
    by_cases hn : n < q
    · have hs : retStep q σ n = ret1 σ n := if_pos hn
      rw [hs]
      have hkk := ret1_kk σ n
      have htr := ret1_tr σ n
      have hat : atl q (ret1 σ n).kk = atl q σ.kk := by rw [hkk]; exact atl_drop hn
      have hbl : blw q (n :: r) = n :: blw q r := by unfold blw; rw [List.filter_cons_of_pos (by simpa using hn)]
      have hne : dropK σ.kk n ≠ [] := by
        intro e
        rw [hkk, e] at hat
        exact h5 (by rw [← hat]; rfl)
      have hcur : (ret1 σ n).cur = (if n = σ.cur then minI (dropK σ.kk n) else σ.cur) ∧ (ret1 σ n).us = (if n = σ.cur then addU σ.us (minI (dropK σ.kk n)) else σ.us) := by
        unfold ret1 useU; dsimp only
        by_cases hc : n = σ.cur
        · rw [if_pos ⟨hc, hne⟩, if_pos hc, if_pos hc]; exact ⟨rfl, rfl⟩
        · rw [if_neg (fun h => hc h.1), if_neg hc, if_neg hc]; exact ⟨rfl, rfl⟩
      obtain ⟨hM1, hM2⟩ := minI_mem hne
      obtain ⟨hA1, hA2⟩ := minI_mem h5
      have hA3 := atl_mem.mp hA1
      have := ih (ret1 σ n) h1b (fun k hk => by rw [hkk]; exact dropK_mem.mpr ⟨h2 k (.tail _ hk), by have := h1a k hk; omega⟩)
        (fun k hk => by
          rw [hkk] at hk
          obtain ⟨a1, a2⟩ := dropK_mem.mp hk
          rcases h3 k a1 with b | b
          · rcases List.mem_cons.mp b with c | c
            · exact absurd c a2
            · exact .inl c
          · exact .inr b)
        (by
          rw [hkk, hcur.1]; split
          · exact hM1
          · exact dropK_mem.mpr ⟨h4, fun e => by simp_all⟩)
        (by rw [hat]; exact h5)
      obtain ⟨g1, g2, g3, g4, g5, g6, g7⟩ := this
      rw [hat] at g1 g3 g4
      rw [hkk] at g5
      rw [htr] at g2
      refine ⟨g1, ?_, ?_, fun k hk => ?_, fun k hk => ?_, fun k hk => ?_, fun hu => ?_⟩
      · rw [g2, hbl]; simp
      · rw [g3, hcur.1]
        by_cases hc : n = σ.cur
        · rw [if_pos hc, if_neg (by omega : ¬ q ≤ σ.cur)]
          split
          · have : minI (dropK σ.kk n) ∈ atl q σ.kk := by rw [← atl_drop hn]; exact atl_mem.mpr ⟨hM1, by assumption⟩
            have b1 := hA2 _ this
            have b2 := hM2 (minI (atl q σ.kk)) (dropK_mem.mpr ⟨hA3.1, by omega⟩)
            omega
          · rfl
        · rw [if_neg hc]
      · rw [g4 k hk, hcur.1, hcur.2]
        by_cases hc : n = σ.cur
        · rw [if_pos hc, if_pos hc, addU_mem]
          have hcq : σ.cur < q := by omega
          have b2 := hM2 (minI (atl q σ.kk)) (dropK_mem.mpr ⟨hA3.1, by omega⟩)
          by_cases hq : q ≤ minI (dropK σ.kk n)
          · have : minI (dropK σ.kk n) ∈ atl q σ.kk := by rw [← atl_drop hn]; exact atl_mem.mpr ⟨hM1, hq⟩
            have b1 := hA2 _ this
            have e : minI (dropK σ.kk n) = minI (atl q σ.kk) := by omega
            rw [e]
            constructor
            · rintro ((a | a) | ⟨a, b⟩)
              · exact .inl a
              · exact .inr ⟨hcq, a⟩
              · exact .inr ⟨hcq, b⟩
            · rintro (a | ⟨_, a⟩)
              · exact .inl (.inl a)
              · exact .inl (.inr a)
          · constructor
            · rintro ((a | a) | ⟨a, b⟩)
              · exact .inl a
              · omega
              · exact .inr ⟨hcq, b⟩
            · rintro (a | ⟨_, a⟩)
              · exact .inl (.inl a)
              · exact .inr ⟨by omega, a⟩
        · rw [if_neg hc, if_neg hc]
      · rcases g5 k hk with a | a
        · rw [hcur.2] at a
          split at a
          · rcases addU_mem.mp a with b | b
            · exact .inl b
            · exact .inr (b ▸ (dropK_mem.mp hM1).1)
          · exact .inl a
        · exact .inr (dropK_mem.mp a).1
      · refine g6 k ?_
        rw [hcur.2]; split
        · exact addU_mem.mpr (.inl hk)
        · exact hk
      · refine g7 ?_
        rw [hcur.2]; split
        · exact addU_nodup hu
        · exact hu
    · have hs : retStep q σ n = σ := if_neg hn
      rw [hs]
      have hbl : blw q (n :: r) = blw q r := by unfold blw; rw [List.filter_cons_of_neg (by simpa using hn)]
      rw [hbl]
      exact ih σ h1b (fun k hk => h2 k (.tail _ hk)) (fun k hk => (h3 k hk).elim (fun a => (List.mem_cons.mp a).elim (fun e => .inr (by omega)) .inl) .inr) h4 h5

theorem ret_all {q : Int} {σ : Ust} (hn : σ.kk.Nodup) (hc : σ.cur ∈ σ.kk) (h5 : atl q σ.kk ≠ []) :
    let τ := retAll q σ
    τ.kk = atl q σ.kk ∧ τ.tr = σ.tr ++ blw q (srt σ.kk) ∧ (τ.cur = if q ≤ σ.cur then σ.cur else minI (atl q σ.kk)) ∧ (∀ k, q ≤ k → (k ∈ τ.us ↔ k ∈ σ.us ∨ (σ.cur < q ∧ k = minI (atl q σ.kk)))) ∧ (∀ k ∈ τ.us, k ∈ σ.us ∨ k ∈ σ.kk) ∧ (∀ k ∈ σ.us, k ∈ τ.us) ∧ (σ.us.Nodup → τ.us.Nodup) := by
  refine ret_fold q (srt σ.kk) σ ?_ (fun k hk => srt_mem.mp hk) (fun k hk => .inl (srt_mem.mpr hk)) hc h5
  have h1 := srt_sorted σ.kk
  have h2 : (srt σ.kk).Pairwise (· ≠ ·) := (srt_perm σ.kk).nodup_iff.mpr hn
  exact (h1.and h2).imp fun h => by omega

/-- what holds of the sides and the law's lists -/
structure Pre (t : Nat) (x : Wst) (dk : List Int) (σ : Ust) : Prop where
  ev : x.ever.Nodup
  ln : x.fs.length + 1 = x.ever.length
  lt : x.ever.length ≤ t + 1
  l2 : 2 ≤ x.lim
  l4 : x.lim ≤ 4
  mn0 : ∀ k ∈ x.mn, 0 ≤ k
  mn1 : ∀ k ∈ x.mn, k < (x.ever.length : Int)
  mnl : x.mn.length ≤ t + 1
  fsk : ∀ (i : Nat) f, x.fs[i]? = some f → f ≤ (i : Int) + 1 ∧ f ≤ x.asked
  as0 : 0 ≤ x.asked
  as1 : x.asked ≤ (x.ever.length : Int)
  dkc : dk = 0 :: x.cm
  dkt : dk.length ≤ t + 1
  dk0 : ∀ k ∈ dk, 0 ≤ k
  dk1 : ∀ k ∈ dk, k < (x.ever.length : Int)
  knd : σ.kk.Nodup
  cur : σ.cur ∈ σ.kk
  now : x.now = σ.cur
  km : ∀ k ∈ σ.kk, k ∈ x.mn
  kd : ∀ k ∈ σ.kk, k ∈ dk
  um : ∀ k ∈ σ.kk, (k ∈ σ.us ↔ k ∈ x.mt)
  ud : ∀ k ∈ σ.us, k ∈ dk
  und : σ.us.Nodup
  cu : σ.cur ∈ σ.us
  md : ∀ k ∈ x.mt, k ∈ dk
  wn : x.wd.Nodup
  wm : ∀ k ∈ x.wd, k ∈ x.mn
  wdk : ∀ k ∈ x.wd, k ∈ dk
  wk : ∀ k ∈ x.wd, k ∉ σ.kk
  tr : σ.tr = x.wd
  al : ∀ (i : Nat) f, x.fs[i]? = some f → ((x.mn.filter fun k => decide (f ≤ k ∧ k ≤ (i : Int) + 1)).length : Int) ≤ x.lim
  un : ∀ k : Int, 0 ≤ k → k < (x.ever.length : Int) → k ∈ x.mn ∨ k ∈ dk
structure Inv (t : Nat) (x : Wst) (dk : List Int) (σ : Ust) : Prop extends Pre t x dk σ where
  hs : x.hs = srt σ.kk
  kl : (σ.kk.length : Int) ≤ x.lim
  pr : ∀ k ∈ σ.kk, x.prior ≤ k
  pf : ∀ (i : Nat) f, x.fs[i]? = some f → (i : Int) + 1 ∈ dk → f ≤ x.prior
  mtl : x.mt.length ≤ t + 1

theorem srt_atl (q : Int) (l : List Int) : atl q (srt l) = srt (atl q l) := srt_filter _ _

theorem tail_inv {t : Nat} {y : Wst} {dk : List Int} {σ : Ust} {p n : Int} (h : Pre t y dk σ) (hml : y.mt.length ≤ t) (hs : srt y.hs = srt σ.kk) (hn : n ∈ σ.kk) (hq : max y.prior p ≤ n) (hkl : ((atl (max y.prior p) σ.kk).length : Int) ≤ y.lim)
    (hpf : ∀ (i : Nat) f, y.fs[i]? = some f → (i : Int) + 1 ∈ dk → f ≤ max y.prior p) : Inv t (tailW p y) dk (retAll (max y.prior p) σ) := by
  have h5 : atl (max y.prior p) σ.kk ≠ [] := fun e => by
    have := atl_mem.mpr ⟨hn, hq⟩
    rw [e] at this; cases this
  obtain ⟨g1, g2, g3, g4, g5, g6, g7⟩ := ret_all h.knd h.cur h5
  obtain ⟨hA1, hA2⟩ := minI_mem h5
  generalize retAll (max y.prior p) σ = τ at *
  have e1 : atl (max y.prior p) (srt y.hs) = srt (atl (max y.prior p) σ.kk) := by rw [hs]; exact srt_atl _ _
  have e2 : (srt (atl (max y.prior p) σ.kk)).headD 0 = minI (atl (max y.prior p) σ.kk) := rfl
  have hmem : y.now ∈ srt (atl (max y.prior p) σ.kk) ↔ max y.prior p ≤ σ.cur := by
    rw [srt_mem, h.now, atl_mem]; exact ⟨fun a => a.2, fun a => ⟨h.cur, a⟩⟩
  have hwd : y.wd ++ blw (max y.prior p) (srt y.hs) = τ.tr := by rw [g2, h.tr, hs]
  have hbn : (blw (max y.prior p) (srt y.hs)).Nodup := by
    rw [hs]; exact ((srt_perm σ.kk).nodup_iff.mpr h.knd).filter _
  have hbm : ∀ k ∈ blw (max y.prior p) (srt y.hs), k ∈ σ.kk ∧ k < max y.prior p := fun k hk => by
    rw [hs] at hk
    obtain ⟨a, b⟩ := blw_mem.mp hk
    exact ⟨srt_mem.mp a, b⟩
  have hwn : (y.wd ++ blw (max y.prior p) (srt y.hs)).Nodup := by
    rw [List.nodup_append]
    refine ⟨h.wn, hbn, fun a ha b hb e => ?_⟩
    subst e
    exact h.wk _ ha (hbm _ hb).1
  have hkm : ∀ k ∈ τ.kk, k ∈ σ.kk ∧ max y.prior p ≤ k := fun k hk => by rw [g1] at hk; exact atl_mem.mp hk
  by_cases hc : max y.prior p ≤ σ.cur
  · rw [tailW_in e1 (hmem.mpr hc)]
    rw [if_pos hc] at g3
    have hnc : ¬ σ.cur < max y.prior p := by omega
    exact {
      ev := h.ev, ln := h.ln, lt := h.lt, l2 := h.l2, l4 := h.l4, mn0 := h.mn0, mn1 := h.mn1, mnl := h.mnl, fsk := h.fsk, as0 := h.as0, as1 := h.as1, dkc := h.dkc, dkt := h.dkt, dk0 := h.dk0, dk1 := h.dk1,
      knd := by rw [g1]; exact h.knd.filter _
      cur := by rw [g3, g1]; exact atl_mem.mpr ⟨h.cur, hc⟩
      now := by rw [g3]; exact h.now
      km := fun k hk => h.km k (hkm k hk).1
      kd := fun k hk => h.kd k (hkm k hk).1
      um := fun k hk => by rw [g4 k (hkm k hk).2, ← h.um k (hkm k hk).1]; simp [hnc]
      ud := fun k hk => (g5 k hk).elim (h.ud k) (h.kd k)
      und := g7 h.und
      cu := by rw [g3]; exact g6 _ h.cu
      md := h.md
      wn := hwn
      wm := fun k hk => (List.mem_append.mp hk).elim (h.wm k) fun b => h.km k (hbm k b).1
      wdk := fun k hk => (List.mem_append.mp hk).elim (h.wdk k) fun b => h.kd k (hbm k b).1
      wk := fun k hk hk' => (List.mem_append.mp hk).elim (fun a => h.wk k a (hkm k hk').1) fun b => absurd (hbm k b).2 (by have := (hkm k hk').2; omega)
      tr := hwd.symm
      al := h.al, un := h.un
      hs := by rw [g1]
      kl := by rw [g1]; exact hkl
      pr := fun k hk => (hkm k hk).2
      pf := hpf
      mtl := Nat.le_succ_of_le hml }
  · rw [tailW_out e1 (fun a => hc (hmem.mp a)), e2]
    rw [if_neg hc] at g3
    have hnc : σ.cur < max y.prior p := by omega
    have hMk := atl_mem.mp hA1
    exact {
      ev := h.ev, ln := h.ln, lt := h.lt, l2 := h.l2, l4 := h.l4, mn0 := h.mn0, mn1 := h.mn1, mnl := h.mnl, fsk := h.fsk, as0 := h.as0, as1 := h.as1, dkc := h.dkc, dkt := h.dkt, dk0 := h.dk0, dk1 := h.dk1,
      knd := by rw [g1]; exact h.knd.filter _
      cur := by rw [g3, g1]; exact hA1
      now := by rw [g3]
      km := fun k hk => h.km k (hkm k hk).1
      kd := fun k hk => h.kd k (hkm k hk).1
      um := fun k hk => by rw [g4 k (hkm k hk).2, h.um k (hkm k hk).1]; simp [hnc]
      ud := fun k hk => (g5 k hk).elim (h.ud k) (h.kd k)
      und := g7 h.und
      cu := by rw [g3]; exact (g4 _ hMk.2).mpr (.inr ⟨hnc, rfl⟩)
      md := fun k hk => (List.mem_append.mp hk).elim (h.md k) fun b => by rw [List.mem_singleton.mp b]; exact h.kd _ hMk.1
      wn := hwn
      wm := fun k hk => (List.mem_append.mp hk).elim (h.wm k) fun b => h.km k (hbm k b).1
      wdk := fun k hk => (List.mem_append.mp hk).elim (h.wdk k) fun b => h.kd k (hbm k b).1
      wk := fun k hk hk' => (List.mem_append.mp hk).elim (fun a => h.wk k a (hkm k hk').1) fun b => absurd (hbm k b).2 (by have := (hkm k hk').2; omega)
      tr := hwd.symm
      al := h.al, un := h.un
      hs := by rw [g1]
      kl := by rw [g1]; exact hkl
      pr := fun k hk => (hkm k hk).2
      pf := hpf
      mtl := by show (y.mt ++ [_]).length ≤ _; simp; exact hml }
-- text Pure2
theorem max_ex : ∀ {K : List Int}, K ≠ [] → ∃ M ∈ K, ∀ k ∈ K, k ≤ M
  | [], h => absurd rfl h
  | [a], _ => ⟨a, .head _, fun k hk => by rw [List.mem_singleton.mp hk]; exact Int.le_refl _⟩
  | a :: b :: l, _ => by
    obtain ⟨M, h1, h2⟩ := max_ex (K := b :: l) (by simp)
    by_cases h : a ≤ M
    · exact ⟨M, .tail _ h1, fun k hk => (List.mem_cons.mp hk).elim (fun e => e ▸ h) (h2 k)⟩
    · exact ⟨a, .head _, fun k hk => (List.mem_cons.mp hk).elim (fun e => Int.le_of_eq e) fun e => by have := h2 k e; omega⟩
theorem at_bound {t : Nat} {x : Wst} {dk : List Int} {σ : Ust} (h : Pre t x dk σ) {K : List Int} (hK : K.Nodup) (hm : ∀ k ∈ K, k ∈ x.mn) {q : Int} (hq : ∀ k ∈ K, q ≤ k) (hf : ∀ (i : Nat) f, x.fs[i]? = some f → (i : Int) + 1 ∈ K → f ≤ q) : (K.length : Int) ≤ x.lim := by
  have hl2 := h.l2
  by_cases hne : K = []
  · rw [hne]; simp; omega
  obtain ⟨M, h1, h2⟩ := max_ex hne
  have m0 := h.mn0 M (hm M h1)
  have m1 := h.mn1 M (hm M h1)
  have hln := h.ln
  by_cases hM : M = 0
  · have : K.length ≤ [(0 : Int)].length := sub_len hK fun a ha => by
      have a1 := h.mn0 a (hm a ha)
      have a2 := h2 a ha
      rw [List.mem_singleton]; omega
    simp at this; omega
  · obtain ⟨i, rfl⟩ : ∃ i : Nat, M = (i : Int) + 1 := ⟨M.toNat - 1, by omega⟩
    have hi : i < x.fs.length := by omega
    have hfi : x.fs[i]? = some x.fs[i] := List.getElem?_eq_getElem hi
    have hfq := hf i _ hfi h1
    have hal := h.al i _ hfi
    have : K.length ≤ (x.mn.filter fun k => decide (x.fs[i] ≤ k ∧ k ≤ (i : Int) + 1)).length := sub_len hK fun a ha => by
      rw [List.mem_filter]
      have a1 := hq a ha
      have a2 := h2 a ha
      exact ⟨hm a ha, by simp; omega⟩
    omega
theorem Pre.mono {t : Nat} {x : Wst} {dk : List Int} {σ : Ust} (h : Pre t x dk σ) : Pre (t + 1) x dk σ := { h with lt := Nat.le_succ_of_le h.lt, mnl := Nat.le_succ_of_le h.mnl, dkt := Nat.le_succ_of_le h.dkt }
theorem Inv.mono {t : Nat} {x : Wst} {dk : List Int} {σ : Ust} (h : Inv t x dk σ) : Inv (t + 1) x dk σ := { h with toPre := h.toPre.mono, mtl := Nat.le_succ_of_le h.mtl }

theorem issue_inv {t : Nat} {x : Wst} {dk : List Int} {σ : Ust} (h : Inv t x dk σ) {cid : By} (hc : cid ∉ x.ever) (hl : ((x.mn.filter fun k => decide (x.asked ≤ k)).length : Int) < x.lim) :
    Inv (t + 1) { x with mn := x.mn ++ [(x.ever.length : Int)], ever := x.ever ++ [cid], fs := x.fs ++ [x.asked] } dk σ := by
  have hln := h.ln
  have hlt := h.lt
  have hml := h.mnl
  have hd := h.dkt
  have ha := h.as1
  have hel : ((x.ever ++ [cid]).length : Int) = x.ever.length + 1 := by simp
  exact {
    ev := by rw [List.nodup_append]; exact ⟨h.ev, by simp, fun a ha b hb e => by subst e; rw [List.mem_singleton.mp hb] at ha; exact hc ha⟩
    ln := by simp; omega
    lt := by simp; omega
    l2 := h.l2, l4 := h.l4
    mn0 := fun k hk => (List.mem_append.mp hk).elim (h.mn0 k) fun b => by rw [List.mem_singleton.mp b]; omega
    mn1 := fun k hk => by
      show k < ((x.ever ++ [cid]).length : Int)
      rw [hel]
      exact (List.mem_append.mp hk).elim (fun a => by have := h.mn1 k a; omega) fun b => by rw [List.mem_singleton.mp b]; omega
    mnl := by simp; omega
    fsk := fun i f hf => by
      dsimp only at hf ⊢
      by_cases hi : i < x.fs.length
      · rw [List.getElem?_append_left hi] at hf; exact h.fsk i f hf
      · have hi' : i = x.fs.length := by
          have := (List.getElem?_eq_some_iff.mp hf).1
          simp at this; omega
        subst hi'
        simp at hf
        subst hf
        exact ⟨by omega, Int.le_refl _⟩
    as0 := h.as0
    as1 := by show x.asked ≤ ((x.ever ++ [cid]).length : Int); rw [hel]; omega
    dkc := h.dkc
    dkt := by omega
    dk0 := h.dk0
    dk1 := fun k hk => by show k < ((x.ever ++ [cid]).length : Int); rw [hel]; have := h.dk1 k hk; omega
    knd := h.knd, cur := h.cur, now := h.now
    km := fun k hk => List.mem_append_left _ (h.km k hk)
    kd := h.kd, um := h.um, ud := h.ud, und := h.und, cu := h.cu, md := h.md, wn := h.wn
    wm := fun k hk => List.mem_append_left _ (h.wm k hk)
    wdk := h.wdk, wk := h.wk, tr := h.tr
    al := fun i f hf => by
      dsimp only at hf ⊢
      rw [List.filter_append]
      by_cases hi : i < x.fs.length
      · rw [List.getElem?_append_left hi] at hf
        have h1 := h.al i f hf
        rw [List.filter_cons_of_neg (by simp; omega)]
        simpa using h1
      · have hi' : i = x.fs.length := by
          have := (List.getElem?_eq_some_iff.mp hf).1
          simp at this; omega
        subst hi'
        simp at hf
        subst hf
        rw [List.filter_cons_of_pos (by simp; omega)]
        have : (x.mn.filter fun k => decide (x.asked ≤ k ∧ k ≤ (x.fs.length : Int) + 1)) = x.mn.filter fun k => decide (x.asked ≤ k) := List.filter_congr fun k hk => by
          have := h.mn1 k hk
          have e : k ≤ (x.fs.length : Int) + 1 := by omega
          simp [e]
        rw [this]; simp; omega
    un := fun k h0 h1 => by
      dsimp only at h1 ⊢
      rw [hel] at h1
      by_cases hk : k < (x.ever.length : Int)
      · exact (h.un k h0 hk).imp (List.mem_append_left _) id
      · exact .inl (List.mem_append_right _ (by simp; omega))
    hs := h.hs, kl := h.kl, pr := h.pr
    pf := fun i f hf hd => by
      dsimp only at hf ⊢
      have hd1 := h.dk1 _ hd
      rw [List.getElem?_append_left (by omega)] at hf
      exact h.pf i f hf hd
    mtl := Nat.le_succ_of_le h.mtl }

theorem ask_inv {t : Nat} {x : Wst} {dk : List Int} {σ : Ust} (h : Inv t x dk σ) (p : Int) : Inv (t + 1) { x with asked := max x.asked (min p (x.ever.length : Int)) } dk σ := by
  have h' := h.mono
  have h0 := h.as0
  have h1 := h.as1
  exact { h' with
    fsk := fun i f hf => ⟨(h.fsk i f hf).1, by have := (h.fsk i f hf).2; dsimp only; omega⟩
    as0 := by dsimp only; omega
    as1 := by dsimp only; omega
    ev := h'.ev, ln := h'.ln, lt := h'.lt, l2 := h'.l2, l4 := h'.l4, mn0 := h'.mn0, mn1 := h'.mn1, mnl := h'.mnl, dkc := h'.dkc, dk1 := h'.dk1, now := h'.now, km := h'.km, um := h'.um, md := h'.md, wn := h'.wn, wm := h'.wm, wdk := h'.wdk, wk := h'.wk, tr := h'.tr, al := h'.al, un := h'.un, hs := h'.hs, kl := h'.kl, pr := h'.pr, pf := h'.pf, mtl := h'.mtl }

theorem dropK_nodup {l : List Int} (h : l.Nodup) (n : Int) : (dropK l n).Nodup := h.filter _
theorem words_inv {t : Nat} {x : Wst} {dk : List Int} {σ : Ust} (h : Inv t x dk σ) : Inv (t + 1) { x with mn := dropAll x.mn x.wd, wd := [] } dk { σ with tr := [] } := by
  have h' := h.mono
  have hsub : ∀ l mn, (dropAll mn l).Sublist mn := fun l => by
    induction l with
    | nil => exact fun mn => List.Sublist.refl _
    | cons n r ih => exact fun mn => (ih (dropK mn n)).trans List.filter_sublist
  exact {
    ev := h'.ev, ln := h'.ln, lt := h'.lt, l2 := h'.l2, l4 := h'.l4
    mn0 := fun k hk => h.mn0 k (mem_dropAll.mp hk).1
    mn1 := fun k hk => h.mn1 k (mem_dropAll.mp hk).1
    mnl := Nat.le_trans (dropAll_len _ _) h'.mnl
    fsk := h'.fsk, as0 := h'.as0, as1 := h'.as1, dkc := h'.dkc, dkt := h'.dkt, dk0 := h'.dk0, dk1 := h'.dk1, knd := h'.knd, cur := h'.cur, now := h'.now
    km := fun k hk => mem_dropAll.mpr ⟨h.km k hk, fun a => h.wk k a hk⟩
    kd := h'.kd, um := h'.um, ud := h'.ud, und := h'.und, cu := h'.cu, md := h'.md
    wn := List.nodup_nil
    wm := fun k hk => nomatch hk
    wdk := fun k hk => nomatch hk
    wk := fun k hk => nomatch hk
    tr := rfl
    al := fun i f hf => by
      have h1 := h.al i f hf
      have h2 := ((hsub x.wd x.mn).filter fun k => decide (f ≤ k ∧ k ≤ (i : Int) + 1)).length_le
      dsimp only; omega
    un := fun k h0 h1 => by
      rcases h.un k h0 h1 with a | a
      · by_cases hk : k ∈ x.wd
        · exact .inr (h.wdk k hk)
        · exact .inl (mem_dropAll.mpr ⟨a, hk⟩)
      · exact .inr a
    hs := h'.hs, kl := h'.kl, pr := h'.pr, pf := h'.pf, mtl := h'.mtl }

theorem chg_inv {t : Nat} {x : Wst} {dk : List Int} {σ : Ust} (h : Inv t x dk σ) {k : Int} {r : List Int} (hl : leftOf σ = k :: r) :
    Inv (t + 1) { x with hs := dropK x.hs x.now, wd := x.wd ++ [x.now], now := k, mt := x.mt ++ [k] } dk (ret1 (useU σ k) σ.cur) := by
  have h' := h.mono
  have hk : k ∈ leftOf σ := by rw [hl]; exact .head _
  obtain ⟨hk1, hk2⟩ := List.mem_filter.mp hk
  have hk1 := srt_mem.mp hk1
  have hk2 : k ∉ σ.us := by simpa using hk2
  have hkc : σ.cur ≠ k := fun e => hk2 (e ▸ h.cu)
  have hus : addU σ.us k = σ.us ++ [k] := if_neg hk2
  have e : ret1 (useU σ k) σ.cur = { kk := dropK σ.kk σ.cur, us := σ.us ++ [k], tr := σ.tr ++ [σ.cur], cur := k } := by
    unfold ret1 useU; dsimp only
    rw [if_neg (fun a => hkc a.1), hus]
  rw [e]
  have hd : ∀ j, j ∈ dropK σ.kk σ.cur → j ∈ σ.kk ∧ j ≠ σ.cur := fun j hj => dropK_mem.mp hj
  exact {
    ev := h'.ev, ln := h'.ln, lt := h'.lt, l2 := h'.l2, l4 := h'.l4, mn0 := h'.mn0, mn1 := h'.mn1, mnl := h'.mnl, fsk := h'.fsk, as0 := h'.as0, as1 := h'.as1, dkc := h'.dkc, dkt := h'.dkt, dk0 := h'.dk0, dk1 := h'.dk1
    knd := dropK_nodup h.knd _
    cur := dropK_mem.mpr ⟨hk1, Ne.symm hkc⟩
    now := rfl
    km := fun j hj => h.km j (hd j hj).1
    kd := fun j hj => h.kd j (hd j hj).1
    um := fun j hj => by
      dsimp only
      rw [List.mem_append, List.mem_append, h.um j (hd j hj).1]
    ud := fun j hj => (List.mem_append.mp hj).elim (h.ud j) fun b => by rw [List.mem_singleton.mp b]; exact h.kd k hk1
    und := by rw [← hus]; exact addU_nodup h.und
    cu := List.mem_append_right _ (by simp)
    md := fun j hj => (List.mem_append.mp hj).elim (h.md j) fun b => by rw [List.mem_singleton.mp b]; exact h.kd k hk1
    wn := by
      rw [List.nodup_append]
      refine ⟨h.wn, by simp, fun a ha b hb e => ?_⟩
      subst e
      rw [List.mem_singleton.mp hb, h.now] at ha
      exact h.wk _ ha h.cur
    wm := fun j hj => (List.mem_append.mp hj).elim (h.wm j) fun b => by rw [List.mem_singleton.mp b, h.now]; exact h.km _ h.cur
    wdk := fun j hj => (List.mem_append.mp hj).elim (h.wdk j) fun b => by rw [List.mem_singleton.mp b, h.now]; exact h.kd _ h.cur
    wk := fun j hj hj' => (List.mem_append.mp hj).elim (fun a => h.wk j a (hd j hj').1) fun b => (hd j hj').2 (by rw [List.mem_singleton.mp b, h.now])
    tr := by show σ.tr ++ [σ.cur] = x.wd ++ [x.now]; rw [h.tr, h.now]
    al := h'.al, un := h'.un
    hs := by
      show dropK x.hs x.now = srt (dropK σ.kk σ.cur)
      rw [h.hs, h.now]; exact srt_filter _ _
    kl := by
      have h1 := h.kl
      have h2 : (dropK σ.kk σ.cur).length ≤ σ.kk.length := List.length_filter_le _ _
      dsimp only; omega
    pr := fun j hj => h.pr j (hd j hj).1
    pf := h'.pf
    mtl := by have := h.mtl; show (x.mt ++ [k]).length ≤ _; simp; omega }

section
variable {t : Nat} {x : Wst} {dk : List Int} {σ : Ust} {i : Nat} {f p : Int}
theorem come_le (h : Inv t x dk σ) (hf : x.fs[i]? = some f) (hp : p = f ∨ p = min x.asked ((i : Int) + 1)) : f ≤ p ∧ p ≤ (i : Int) + 1 ∧ (i : Int) + 1 < (x.ever.length : Int) := by
  have h1 := h.fsk i f hf
  have h2 := (List.getElem?_eq_some_iff.mp hf).1
  have h3 := h.ln
  refine ⟨?_, ?_, by omega⟩ <;> rcases hp with rfl | rfl <;> omega

theorem fresh_pre (h : Inv t x dk σ) (hf : x.fs[i]? = some f) (hn : (i : Int) + 1 ∉ dk) :
    Pre (t + 1) { x with cm := x.cm ++ [(i : Int) + 1], hs := x.hs ++ [(i : Int) + 1] } (dk ++ [(i : Int) + 1]) { σ with kk := σ.kk ++ [(i : Int) + 1] } := by
  have h' := h.mono
  have h2 := (List.getElem?_eq_some_iff.mp hf).1
  have h3 := h.ln
  have hd := h.dkt
  have hnk : (i : Int) + 1 ∉ σ.kk := fun a => hn (h.kd _ a)
  exact { h' with
    dkc := by rw [h.dkc]; rfl
    dkt := by simp; omega
    dk0 := fun k hk => (List.mem_append.mp hk).elim (h.dk0 k) fun b => by rw [List.mem_singleton.mp b]; omega
    dk1 := fun k hk => (List.mem_append.mp hk).elim (h.dk1 k) fun b => by rw [List.mem_singleton.mp b]; show _ < (x.ever.length : Int); omega
    knd := by rw [List.nodup_append]; exact ⟨h.knd, by simp, fun a ha b hb e => by subst e; rw [List.mem_singleton.mp hb] at ha; exact hnk ha⟩
    cur := List.mem_append_left _ h.cur
    km := fun k hk => (List.mem_append.mp hk).elim (h.km k) fun b => by
      rw [List.mem_singleton.mp b]
      exact (h.un ((i : Int) + 1) (by omega) (by omega)).resolve_right hn
    kd := fun k hk => (List.mem_append.mp hk).elim (fun a => List.mem_append_left _ (h.kd k a)) (List.mem_append_right _)
    um := fun k hk => (List.mem_append.mp hk).elim (h.um k) fun b => by
      rw [List.mem_singleton.mp b]
      exact ⟨fun a => absurd (h.ud _ a) hn, fun a => absurd (h.md _ a) hn⟩
    ud := fun k hk => List.mem_append_left _ (h.ud k hk)
    md := fun k hk => List.mem_append_left _ (h.md k hk)
    wdk := fun k hk => List.mem_append_left _ (h.wdk k hk)
    wk := fun k hk hk' => (List.mem_append.mp hk').elim (h.wk k hk) fun b => by
      rw [List.mem_singleton.mp b] at hk; exact hn (h.wdk _ hk)
    un := fun k h0 h1 => (h.un k h0 h1).imp id (List.mem_append_left _)
    ev := h'.ev, ln := h'.ln, lt := h'.lt, l2 := h'.l2, l4 := h'.l4, mn0 := h'.mn0, mn1 := h'.mn1, mnl := h'.mnl, fsk := h'.fsk, as0 := h'.as0, as1 := h'.as1, now := h'.now, und := h'.und, cu := h'.cu, wn := h'.wn, wm := h'.wm, tr := h'.tr, al := h'.al }

theorem fresh_pf (h : Inv t x dk σ) (hf : x.fs[i]? = some f) (hp : p = f ∨ p = min x.asked ((i : Int) + 1)) : ∀ (j : Nat) g, x.fs[j]? = some g → (j : Int) + 1 ∈ dk ++ [(i : Int) + 1] → g ≤ max x.prior p := fun j g hg hj => by
  have h1 := come_le h hf hp
  rcases List.mem_append.mp hj with a | a
  · have := h.pf j g hg a; omega
  · have e : j = i := by have := List.mem_singleton.mp a; omega
    subst e
    rw [hf] at hg; cases hg
    omega
theorem fresh_kl (h : Inv t x dk σ) (hf : x.fs[i]? = some f) (hp : p = f ∨ p = min x.asked ((i : Int) + 1)) (hn : (i : Int) + 1 ∉ dk) : ((atl (max x.prior p) (σ.kk ++ [(i : Int) + 1])).length : Int) ≤ x.lim := by
  have hpre := fresh_pre h hf hn
  refine at_bound hpre (q := max x.prior p) (hpre.knd.filter _) (fun k hk => hpre.km k (atl_mem.mp hk).1) (fun k hk => (atl_mem.mp hk).2) fun j g hg hj => ?_
  exact fresh_pf h hf hp j g hg (hpre.kd _ (atl_mem.mp hj).1)
theorem fresh_ne (h : Inv t x dk σ) (hf : x.fs[i]? = some f) (hp : p = f ∨ p = min x.asked ((i : Int) + 1)) (hq : ¬ (i : Int) + 1 < x.prior) : atl (max x.prior p) (σ.kk ++ [(i : Int) + 1]) ≠ [] := fun e => by
  have h1 := come_le h hf hp
  have : (i : Int) + 1 ∈ atl (max x.prior p) (σ.kk ++ [(i : Int) + 1]) := atl_mem.mpr ⟨by simp, by omega⟩
  rw [e] at this; cases this
theorem come_lim (h : Inv t x dk σ) (hf : x.fs[i]? = some f) (hp : p = f ∨ p = min x.asked ((i : Int) + 1)) (hn : (i : Int) + 1 ∉ dk) (hq : ¬ (i : Int) + 1 < x.prior) :
    ((retAll (max x.prior p) { σ with kk := σ.kk ++ [(i : Int) + 1] }).kk.length : Int) ≤ x.lim := by
  have hpre := fresh_pre h hf hn
  rw [(ret_all (σ := { σ with kk := σ.kk ++ [(i : Int) + 1] }) hpre.knd hpre.cur (fresh_ne h hf hp hq)).1]
  exact fresh_kl h hf hp hn

theorem come_inv {x' : Wst} {dk' : List Int} {σ' : Ust} (h : Inv t x dk σ) (hf : x.fs[i]? = some f) (hp : p = f ∨ p = min x.asked ((i : Int) + 1)) (hc : Come x σ dk ((i : Int) + 1) p x' σ' dk') : Inv (t + 1) x' dk' σ' := by
  have h1 := come_le h hf hp
  have h' := h.mono
  cases hc with
  | again a b =>
    refine tail_inv h'.toPre h.mtl (by rw [h.hs]; exact srt_srt _) b (by have := h.pr _ b; omega) ?_ fun j g hg hj => ?_
    · have := h.kl
      have h2 : (atl (max x.prior p) σ.kk).length ≤ σ.kk.length := List.length_filter_le _ _
      omega
    · have := h.pf j g hg hj; omega
  | gone a b => exact h'
  | late a b =>
    have hd := h.dkt
    have hnk : (i : Int) + 1 ∉ σ.kk := fun c => a (h.kd _ c)
    exact { h' with
      dkc := by rw [h.dkc]; rfl
      dkt := by simp; omega
      dk0 := fun k hk => (List.mem_append.mp hk).elim (h.dk0 k) fun b => by rw [List.mem_singleton.mp b]; omega
      dk1 := fun k hk => (List.mem_append.mp hk).elim (h.dk1 k) fun b => by rw [List.mem_singleton.mp b]; exact h1.2.2
      kd := fun k hk => List.mem_append_left _ (h.kd k hk)
      ud := fun k hk => List.mem_append_left _ (h.ud k hk)
      md := fun k hk => List.mem_append_left _ (h.md k hk)
      wn := by
        rw [List.nodup_append]
        refine ⟨h.wn, by simp, fun c hc d hd e => ?_⟩
        subst e
        rw [List.mem_singleton.mp hd] at hc
        exact a (h.wdk _ hc)
      wm := fun k hk => (List.mem_append.mp hk).elim (h.wm k) fun b => by
        rw [List.mem_singleton.mp b]
        exact (h.un ((i : Int) + 1) (by omega) (by omega)).resolve_right a
      wdk := fun k hk => (List.mem_append.mp hk).elim (fun b => List.mem_append_left _ (h.wdk k b)) (List.mem_append_right _)
      wk := fun k hk hk' => (List.mem_append.mp hk).elim (fun b => h.wk k b hk') fun b => by
        rw [List.mem_singleton.mp b] at hk'; exact hnk hk'
      tr := by show σ.tr ++ [_] = _; rw [h.tr]
      un := fun k h0 h1 => (h.un k h0 h1).imp id (List.mem_append_left _)
      pf := fun j g hg hj => by
        dsimp only at hg ⊢
        rcases List.mem_append.mp hj with c | c
        · exact h.pf j g hg c
        · have e : j = i := by have := List.mem_singleton.mp c; omega
          subst e
          have := h.fsk j g hg
          omega
      ev := h'.ev, ln := h'.ln, lt := h'.lt, l2 := h'.l2, l4 := h'.l4, mn0 := h'.mn0, mn1 := h'.mn1, mnl := h'.mnl, fsk := h'.fsk, as0 := h'.as0, as1 := h'.as1, now := h'.now, km := h'.km, um := h'.um, al := h'.al, hs := h'.hs, kl := h'.kl, pr := h'.pr, mtl := h'.mtl
      knd := h'.knd, cur := h'.cur, und := h'.und, cu := h'.cu }
  | fresh a b =>
    have hpre := fresh_pre h hf a
    have hkl := fresh_kl h hf hp a
    refine tail_inv hpre h.mtl ?_ (n := (i : Int) + 1) (by simp) (by show max x.prior p ≤ _; omega) hkl (fun j g hg hj => fresh_pf h hf hp j g hg hj)
    show srt (x.hs ++ [_]) = srt (σ.kk ++ [_])
    rw [h.hs]
    exact srt_of_perm ((srt_perm _).append_right _)
end
-- text Frames
section
variable {w : World} {mean : ExcName → Option Value} {mg mb : Str → Option Value}
  {dp un : Nat} {gd : Option (List Code)} {cn : Str} {cs : Scope} {a : Addr} {ccd : Value} {cl : List (Str × Addr)} {outer : List Env} {A₀ : Around}
  {base h₀ : Heap} {L : Addr} {m : Str → Option Value} {s : Shared} {Q E : Value → Shared → Prop} {rest : List (Addr × Obj)}
abbrev Rci : Str := Str.ofString "retire_connection_id"

local macro_rules | `(tactic| walk_at "exec Assign cons ListComp") => `(tactic| (k_here; k_dflt (refine compUA (by k_asm) rfl (by with_unfolding_all rfl) (by with_unfolding_all rfl) (by decide) (by rfl) (by decide) (by rfl) (by rfl) (by rfl) (by intro _; with_unfolding_all rfl) ?_)))

local macro_rules | `(tactic| walk_at "newTuple") => `(tactic| (k_here; k_dflt (refine' tuple_new ?F ?N ?_ ?z; (case F => k_asm); (case N => k_asm); (case z => exact Nat.le_of_ble_eq_true rfl)); intro D' h' F' N' l1 l2; (try k_sweep)))
local macro_rules | `(tactic| k_all) => `(tactic| assumption)
theorem off1_mem {D : Addr} {l : List (Addr × Obj)} (h : LCg.Off1 D l) : ∀ p ∈ l, p.1 ≠ D := by
  induction l with
  | nil => exact fun _ h => nomatch h
  | cons q r ih => intro p hp; rcases List.mem_cons.mp hp with rfl | hp; exact h.1; exact ih h.2 p hp
theorem news_end {h₀ h : Heap} {L : Addr} {x : Addr × Obj} {es es' l : List (Addr × Obj)} (he : es' = x :: es) (N : News h₀ L h (x :: (es ++ l))) : News h₀ L h (l ++ es') := fun p hp => by
  subst he
  refine N p ?_
  simp only [List.mem_append, List.mem_cons] at hp ⊢
  rcases hp with h | h | h <;> simp [h]
theorem fr_use {P : Prop} {h₀ h : Heap} {L : Addr} {x u d k1 k2 k3 tr z : Addr × Obj} {es l r : List (Addr × Obj)} (N : News h₀ L h (l ++ r)) (hl : l = x :: u :: d :: k1 :: k2 :: k3 :: tr :: z :: es)
    (k : ∀ ul', ul' = [u, d, k1, k2, k3, x] → News h₀ L h (z :: (es ++ (ul' ++ r))) → P) : P := k _ rfl fun p hp => by
  subst hl
  refine N p ?_
  simp only [List.mem_append, List.mem_cons, List.not_mem_nil, or_false] at hp ⊢
  rcases hp with h | h | (h | h | h | h | h | h) | h <;> simp [h]

set_option maxRecDepth 100000 in
set_option maxHeartbeats 8000000 in
theorem frames_spec (F : Fr h₀ L s.heap m) (B : Below A₀ base outer h₀) (X : (hd.heap_39 w.params).In h₀) (T : Top Mine.view (looseW Mine.view []) mean mg mb h₀) (hk : cs.kind = .function)
    (hdp : dp + 4 * 1 < recursionLimit) (hun : un + 30 * 1 < cLine)
    {TI : Addr → Obj → Prop} {U : Addr} {lim prior : Int} {ever : List By} {dk : List Int} {σ : Ust} {ul : List (Addr × Obj)} (hU : Usr w TI U lim prior ever dk σ ul) (htr : σ.tr.length ≤ 100)
    (N : News h₀ L s.heap (ul ++ rest)) (hoff : Off ul rest)
    (hQ : ∀ ul' es D k h' tk', Usr w TI U lim prior ever dk { σ with tr := [] } ul' → TupsAre Rci es σ.tr → Off ul' rest → Fr h₀ L h' m →
      News h₀ L h' ((D, PySem.W.listOf (refsOf es).toArray k) :: (es ++ (ul' ++ rest))) → Q (.ref D) { s with heap := h', toks := tk' }) :
    wpAny (model PG w) (ktrTop dp un gd cn cs L a ccd cl outer) (call (.ref 182) [.ref U]) Q E s := by
  walk_at "MY fill"
  obtain ⟨dU, KN, US, TD, TR, od, okn, otd, kvs1, kvs2, uvs, n1, tvs, n2, rfl, ⟨t1, t2, t3, t4, t5, t6, t7, t8, u1, u3, u5, rfl⟩, hd1, hr1, hd2, hr2, hu, ht, lo1, lo2, l1, l2, l3, l4, l5⟩ := hU
  refine call_sub (K := hd.heap_39 w.params) (binds := [(Str.ofString "self", .ref U)]) B F X T hk N hoff (by k_is) (by k_is) (by omega) (BindsTo.of_eq rfl) (locs rfl) ?_ rfl rfl rfl (by decide)
  intro g L' h₁ FG hrest hback hlt F' N' B' X' T'
  clear FG N F B X T
  have htl := ht.length
  have o0 := hoff (U, _) (by k_subL)
  have o1 := hoff (dU, _) (by k_subL)
  have o2 := hoff (KN, _) (by k_subL)
  have o3 := hoff (US, _) (by k_subL)
  have o4 := hoff (TD, _) (by k_subL)
  k_unmd
  k_fold
  walk_at "MY walk"
  rename Fr g L' _ _ => F₂; rename News g L' _ _ => N₂
  refine srcU_tups (S := Rci) (by rfl) (by k_subL) ht (by omega) F₂ N₂ ?_ ?_
  · intro k t I oI C oC D m₂ oD es h tk E' hkm hC hx F' N'
    walk_at "MY walk"
    exact tupEnd (by k_asm) (by k_asm) (by assumption)
  · intro g₂ es hes hlt
    intro D h' tk' F' N' off
    have hD : ∀ p ∈ (D, LCg.lst (refsOf es)) :: es, p.1 ≠ dU := fun p hp => by
      rcases List.mem_cons.mp hp with rfl | hp
      · exact Ne.symm (off1_mem off (dU, _) (List.mem_append_right _ (by k_subL)))
      · exact Ne.symm (Nat.ne_of_lt (hlt p hp (dU, _) (by k_subL)))
    obtain ⟨es', he⟩ : ∃ es', es' = (D, LCg.lst (refsOf es)) :: es := ⟨_, rfl⟩
    rw [← he] at hD
    have N₃ := news_end (es' := es') he N'
    clear N'
    simp only [List.cons_append, List.nil_append] at N₃
    walk_at "MY walk"
    refine out_ (by k_asm) (by k_asm) fun F₁ N₁ => ?_
    rename News g L' _ _ => N₄
    rename (_ ∧ _) => hl
    subst he
    have N₅ := news_app N₁ (hback _ _ (by k_asm))
    refine fr_use (es := es) N₅ rfl fun ul' e' N' => hQ ul' es D _ _ _ ?_ hes ?_ F₁ N'
    all_goals subst e'
    · exact ⟨dU, KN, US, TD, _, _, _, _, _, _, _, _, _, _, rfl, ⟨_, _, _, _, _, _, _, _, _, _, _, rfl⟩, hd1, hr1, hd2, hr2, hu, .nil, lo1, lo2, l1, l2, l3, l4, hl.2.2.2.2.1⟩
    · intro p hp q hq
      simp only [List.mem_cons, List.not_mem_nil, or_false] at hp
      rcases hp with rfl | rfl | rfl | rfl | rfl | rfl
      · exact o0 q hq
      · exact o1 q hq
      · exact o2 q hq
      · exact o3 q hq
      · exact o4 q hq
      · intro e
        have h1 := hrest q hq
        have h2 := (N₄ _ (.head _)).2.2
        rw [e] at h1; exact absurd h1 (by rw [h2]; exact fun h => nomatch h)
end
-- text Whole
/-- the four bundles of the law: pen, world, issuer, user -/
inductive Whole (w : World) (TI : Addr → Obj → Prop) (P W I U : Addr) (c : Int) (x : Wst) (dk : List Int) (σ : Ust) (l : List (Addr × Obj)) : Prop
  | mk (pl wl il ul : List (Addr × Obj)) (h : l = pl ++ (wl ++ (il ++ ul))) (hP : Pen P c pl) (hW : Wd w TI W x wl) (hI : Isu w I x.lim x.asked x.mn x.ever il) (hU : Usr w TI U x.lim x.prior x.ever dk σ ul) (hn : (l.map (·.1)).Nodup)
theorem news_sub {g h : Heap} {L : Addr} {l l' : List (Addr × Obj)} (N : News g L h l) (hs : ∀ p ∈ l', p ∈ l) : News g L h l' := fun p hp => N p (hs p hp)
theorem off_map {l l' r : List (Addr × Obj)} (hm : l'.map (·.1) = l.map (·.1)) (h : Off l r) : Off l' r := fun p hp q hq => by
  have : p.1 ∈ l.map (·.1) := by rw [← hm]; exact List.mem_map_of_mem hp
  obtain ⟨p', h1, h2⟩ := List.mem_map.mp this
  have := h p' h1 q hq
  rw [h2] at this; exact this
theorem come_keeps {x x' : Wst} {σ σ' : Ust} {dk dk' : List Int} {n p : Int} (h : Come x σ dk n p x' σ' dk') : x'.lim = x.lim ∧ x'.asked = x.asked ∧ x'.mn = x.mn ∧ x'.ever = x.ever := by
  have ht : ∀ y : Wst, (tailW p y).lim = y.lim ∧ (tailW p y).asked = y.asked ∧ (tailW p y).mn = y.mn ∧ (tailW p y).ever = y.ever := fun y => by
    unfold tailW; dsimp only; split <;> exact ⟨rfl, rfl, rfl, rfl⟩
  cases h with
  | again => exact ht x
  | gone => exact ⟨rfl, rfl, rfl, rfl⟩
  | late => exact ⟨rfl, rfl, rfl, rfl⟩
  | fresh => exact ht _
theorem come_fs {x x' : Wst} {σ σ' : Ust} {dk dk' : List Int} {n p : Int} (h : Come x σ dk n p x' σ' dk') : x'.fs = x.fs := by
  have ht : ∀ y : Wst, (tailW p y).fs = y.fs := fun y => by unfold tailW; dsimp only; split <;> rfl
  cases h with
  | again => exact ht x
  | gone => rfl
  | late => rfl
  | fresh => exact ht _
theorem Inv.sizes {t : Nat} {x : Wst} {dk : List Int} {σ : Ust} (h : Inv t x dk σ) : σ.us.length ≤ t + 1 ∧ x.wd.length ≤ t + 1 ∧ σ.tr.length ≤ t + 1 ∧ σ.kk.length ≤ 4 ∧ x.hs.length ≤ 4 ∧ x.cm.length ≤ t ∧ x.fs.length ≤ t ∧ x.hs.Nodup := by
  have h1 := sub_len h.und h.ud
  have h2 := sub_len h.wn h.wm
  have h3 := h.dkt
  have h4 := h.mnl
  have h5 := h.kl
  have h6 := h.l4
  have h7 := srt_len σ.kk
  have h8 := h.hs
  have h9 := h.ln
  have h10 := h.lt
  have h11 : dk.length = x.cm.length + 1 := by rw [h.dkc]; simp
  rw [h.tr, h8]
  exact ⟨by omega, by omega, by omega, by omega, by omega, by omega, by omega, (srt_perm σ.kk).nodup_iff.mpr h.knd⟩
theorem Inv.hcd {t : Nat} {x : Wst} {dk : List Int} {σ : Ust} (h : Inv t x dk σ) : ∀ n, 0 < n → (n ∈ x.cm ↔ n ∈ dk) := fun n hn => by
  rw [h.dkc, List.mem_cons]
  exact ⟨.inr, fun a => a.resolve_left (by omega)⟩
theorem usr_mono' {w : World} {TI TI' : Addr → Obj → Prop} (h : ∀ a o, TI a o → TI' a o) {U : Addr} {lim prior : Int} {ever ever' : List By} {dk : List Int} {σ : Ust} {ul : List (Addr × Obj)} (hU : Usr w TI U lim prior ever dk σ ul)
    (hk : ∀ k ∈ σ.kk, cidOf ever' k = cidOf ever k) (hd : ∀ k ∈ dk, cidOf ever' k = cidOf ever k) : Usr w TI' U lim prior ever' dk σ ul := by
  obtain ⟨dU, KN, US, TD, TR, od, okn, otd, kvs1, kvs2, uvs, u1, tvs, u2, rfl, hD, hd1, hr1, hd2, hr2, hu, ht, lo1, lo2, l1, l2, l3, l4, l5⟩ := hU
  exact ⟨dU, KN, US, TD, TR, od, okn, otd, kvs1, kvs2, uvs, u1, tvs, u2, rfl, hD, hd1, hr1.mono fun k v hk' hv => by have := tupR_mono h hv; unfold TupR at this ⊢; rw [hk k hk']; exact this, hd2, hr2.mono fun k v hk' hv => by have := tupR_mono h hv; unfold TupR at this ⊢; rw [hd k hk']; exact this, hu, ht, lo1, lo2, l1, l2, l3, l4, l5⟩
theorem mem_r1 {α : Type} {a b c d : List α} : ∀ p ∈ a ++ (b ++ (c ++ d)), p ∈ (a ++ (b ++ c)) ++ d := fun p hp => by
  simpa only [List.append_assoc] using hp
theorem mem_r2 {α : Type} {a b c d e : List α} : ∀ p ∈ (a ++ (b ++ (c ++ d))) ++ e, p ∈ (a ++ (b ++ c)) ++ (e ++ d) := fun p hp => by
  simp only [List.mem_append] at hp ⊢
  rcases hp with (h | h | h | h) | h <;> simp [h]
/-- what an end of a deed shows of its addresses, the issuer's call -/
theorem nd_r1 {a a' b b' c c' d : List (Addr × Obj)} (hm : (a' ++ (b' ++ c')).map (·.1) = (a ++ (b ++ c)).map (·.1)) (h : ((a ++ (b ++ (c ++ d))).map (·.1)).Nodup) : ((a' ++ (b' ++ (c' ++ d))).map (·.1)).Nodup := by
  have e : (a' ++ (b' ++ (c' ++ d))).map (·.1) = (a ++ (b ++ (c ++ d))).map (·.1) := by
    have := congrArg (· ++ d.map (·.1)) hm
    simpa only [List.map_append, List.append_assoc] using this
  rw [e]; exact h
theorem off_r1 {a a' b b' c c' d : List (Addr × Obj)} {y : Addr × Obj} (hm : (a' ++ (b' ++ c')).map (·.1) = (a ++ (b ++ c)).map (·.1)) (h : ∀ q ∈ (a ++ (b ++ c)) ++ d, @LT.lt Nat _ q.1 y.1) : Off (a' ++ (b' ++ (c' ++ d))) [y] := by
  have e : (a' ++ (b' ++ (c' ++ d))).map (·.1) = (a ++ (b ++ (c ++ d))).map (·.1) := by
    have := congrArg (· ++ d.map (·.1)) hm
    simpa only [List.map_append, List.append_assoc] using this
  refine off_map e fun p hp q hq => ?_
  rw [List.mem_singleton.mp hq]
  have := h p (mem_r1 p hp)
  exact fun e => absurd (e ▸ this) (Nat.lt_irrefl _)
theorem list_isnil {prog : Program} {w : World} {A : Around} {E : Value → Shared → Prop} {s : Shared} {a b : Addr} {vs : List Value} {n k : Nat} {Q : Value → Shared → Prop} (ha : s.heap.get? a = some (PySem.W.listOf vs.toArray n)) (hb : s.heap.get? b = some (PySem.W.listOf ([] : List Value).toArray k)) (hu : A.units + 64 < cLine)
    (h : Q (.bool (decide (vs = []))) s) : wpAny (model prog w) A (compareOp .Eq (.ref a) (.ref b)) Q E s := by
  cases vs with
  | nil => exact ke_eq_ints (ns := []) (ms := []) ⟨_, ha, rfl, _, rfl⟩ ⟨_, hb, rfl, _, rfl⟩ .nil .nil hu h
  | cons v r =>
    have := SeqAt.RcAt.lists_lengths (A := A) (s := s) (l := a) (b := b) (items := (v :: r).toArray) (items2 := ([] : List Value).toArray) ⟨_, ha, rfl, _, rfl⟩ ⟨_, hb, rfl, _, rfl⟩ (by simp) (by omega)
    exact this prog w E Q h
theorem nd_of {Z Y R : List (Addr × Obj)} (hp : (Z.map (·.1)).Perm ((Y ++ R).map (·.1))) (hY : (Y.map (·.1)).Nodup) (hR : (R.map (·.1)).Nodup) (ho : Off Y R) : (Z.map (·.1)).Nodup := by
  refine hp.nodup_iff.mpr ?_
  rw [List.map_append, List.nodup_append]
  refine ⟨hY, hR, fun a ha b hb e => ?_⟩
  obtain ⟨p, hp, rfl⟩ := List.mem_map.mp ha
  obtain ⟨q, hq, rfl⟩ := List.mem_map.mp hb
  exact ho p hp q hq e.symm
theorem nd_r2 {a b c d e : List (Addr × Obj)} (hY : ((a ++ (b ++ d)).map (·.1)).Nodup) (hR : (c.map (·.1)).Nodup) (ho : Off (a ++ (b ++ d)) (e ++ c)) : ((a ++ (b ++ (c ++ d))).map (·.1)).Nodup :=
  nd_of (List.perm_iff_count.mpr fun x => by simp only [List.map_append, List.count_append]; omega) hY hR fun p hp q hq => ho p hp q (List.mem_append_right _ hq)
theorem mem_r3 {α : Type} {a b c d e : List α} : ∀ p ∈ (a ++ (b ++ (c ++ d))) ++ e, p ∈ (a ++ (b ++ d)) ++ (e ++ c) := fun p hp => by
  simp only [List.mem_append] at hp ⊢
  rcases hp with (h | h | h | h) | h <;> simp [h]
theorem off_r2 {a b c d e k : List (Addr × Obj)} (ho : Off (a ++ (b ++ d)) (e ++ c)) (hx : ∀ x ∈ e, ∀ q ∈ k ++ c, @LT.lt Nat _ q.1 x.1) : Off (a ++ (b ++ (c ++ d))) e := fun p hp q hq => by
  have : p ∈ a ++ (b ++ d) ∨ p ∈ c := by
    simp only [List.mem_append] at hp ⊢
    rcases hp with h | h | h | h <;> simp [h]
  rcases this with h | h
  · exact ho p h q (List.mem_append_left _ hq)
  · have := hx q hq p (List.mem_append_right _ h)
    exact fun e => absurd (e ▸ this) (Nat.lt_irrefl _)
/-- words: user, world, issuer went with the call; the pen stood -/
theorem mem_r4 {α : Type} {a b c d : List α} : ∀ p ∈ a ++ (b ++ (c ++ d)), p ∈ (d ++ (b ++ c)) ++ a := fun p hp => by
  simp only [List.mem_append] at hp ⊢
  rcases hp with h | h | h | h <;> simp [h]
theorem nd_r4 {a b c d : List (Addr × Obj)} (hY : ((d ++ (b ++ c)).map (·.1)).Nodup) (hR : (a.map (·.1)).Nodup) (ho : Off (d ++ (b ++ c)) a) : ((a ++ (b ++ (c ++ d))).map (·.1)).Nodup :=
  nd_of (List.perm_iff_count.mpr fun x => by simp only [List.map_append, List.count_append]; omega) hY hR ho
/-- changed: world and user went with the call -/
theorem mem_r5 {α : Type} {a b c d : List α} : ∀ p ∈ a ++ (b ++ (c ++ d)), p ∈ (b ++ d) ++ (a ++ c) := fun p hp => by
  simp only [List.mem_append] at hp ⊢
  rcases hp with h | h | h | h <;> simp [h]
theorem nd_r5 {a b b' c d d' : List (Addr × Obj)} (hm : (b' ++ d').map (·.1) = (b ++ d).map (·.1)) (h : ((a ++ (b ++ (c ++ d))).map (·.1)).Nodup) : ((a ++ (b' ++ (c ++ d'))).map (·.1)).Nodup := by
  have e : ((a ++ (b' ++ (c ++ d'))).map (·.1)).Perm ((a ++ (b ++ (c ++ d))).map (·.1)) := List.perm_iff_count.mpr fun x => by
    have := congrArg (List.count x) hm
    simp only [List.map_append, List.count_append] at this ⊢; omega
  exact e.nodup_iff.mpr h
section
variable {a b c d : List (Addr × Obj)} (h : ((a ++ (b ++ (c ++ d))).map (·.1)).Nodup)
include h
theorem nd_s3 : ((a ++ (b ++ d)).map (·.1)).Nodup := h.sublist (((List.Sublist.refl a).append ((List.Sublist.refl b).append (List.sublist_append_right c d))).map _)
theorem nd_s5 : ((b ++ d).map (·.1)).Nodup := h.sublist (((List.Sublist.refl b).append (List.sublist_append_right c d)).trans (List.sublist_append_right a _) |>.map _)
theorem nd_s4 : ((d ++ (b ++ c)).map (·.1)).Nodup := by
  have e : ((d ++ (b ++ c)).map (·.1)).Perm ((b ++ (c ++ d)).map (·.1)) := List.perm_iff_count.mpr fun x => by simp only [List.map_append, List.count_append]; omega
  exact e.nodup_iff.mpr (h.sublist ((List.sublist_append_right a _).map _))
theorem nd_a : (a.map (·.1)).Nodup := h.sublist ((List.sublist_append_left a _).map _)
theorem nd_c : (c.map (·.1)).Nodup := h.sublist (((List.sublist_append_left c d).trans ((List.sublist_append_right b _).trans (List.sublist_append_right a _))).map _)
end
theorem Inv.hleft {t : Nat} {x : Wst} {dk : List Int} {σ : Ust} (h : Inv t x dk σ) : leftOf σ = (srt x.hs).filter fun k => !decide (k ∈ x.mt) := by
  unfold leftOf
  rw [h.hs, srt_srt]
  refine List.filter_congr fun k hk => ?_
  have := h.um k (srt_mem.mp hk)
  by_cases hm : k ∈ x.mt
  · simp [hm, this.mpr hm]
  · simp [hm, mt this.mp hm]
-- text Start
/-- a written list of numbers that rises -/
def Asc : List Nat → Prop
  | a :: b :: l => a < b ∧ Asc (b :: l)
  | _ => True
theorem Asc.pair : ∀ {l : List Nat}, Asc l → l.Pairwise fun a b => a < b
  | [], _ => .nil
  | [_], _ => List.pairwise_singleton _ _
  | a :: b :: l, h => by
    have ih := Asc.pair h.2
    refine List.pairwise_cons.mpr ⟨fun c hc => ?_, ih⟩
    rcases List.mem_cons.mp hc with rfl | hc
    · exact h.1
    · exact Nat.lt_trans h.1 ((List.pairwise_cons.mp ih).1 c hc)
theorem asc_nd {s : List Nat} (h : Asc s) {idx : List Nat} (hi : idx.Nodup) (hb : ∀ i ∈ idx, i < s.length) : (idx.map fun i => s.getD i 0).Nodup := by
  have hp := List.pairwise_iff_getElem.mp h.pair
  refine List.pairwise_map.mpr (hi.imp_of_mem fun {i j} h1 h2 hne e => ?_)
  have b1 := hb i h1
  have b2 := hb j h2
  simp only [List.getD_eq_getElem?_getD, List.getElem?_eq_getElem b1, List.getElem?_eq_getElem b2, Option.getD_some] at e
  rcases Nat.lt_or_gt_of_ne hne with hl | hl
  · have := hp i j b1 b2 hl; omega
  · have := hp j i b2 b1 hl; omega
abbrev fst0 : By := #[102, 105, 114, 115, 116]
def x0 (lim : Int) : Wst := { lim := lim, asked := 0, prior := 0, now := 0, mn := [0], ever := [fst0], fs := [], hs := [0], cm := [], wd := [], mt := [0] }
def σ0 : Ust := { kk := [0], us := [0], tr := [], cur := 0 }
theorem inv0 {lim : Int} (h2 : 2 ≤ lim) (h4 : lim ≤ 4) : Inv 0 (x0 lim) [0] σ0 where
  ev := by simp [x0]
  ln := rfl
  lt := by simp [x0]
  l2 := h2
  l4 := h4
  mn0 := by simp [x0]
  mn1 := by simp [x0]
  mnl := by simp [x0]
  fsk := by intro i f h; simp [x0] at h
  as0 := by simp [x0]
  as1 := by simp [x0]
  dkc := rfl
  dkt := by simp
  dk0 := by simp
  dk1 := by simp [x0]
  knd := by simp [σ0]
  cur := by simp [σ0]
  now := rfl
  km := by simp [σ0, x0]
  kd := by simp [σ0]
  um := by simp [σ0, x0]
  ud := by simp [σ0]
  und := by simp [σ0]
  cu := by simp [σ0]
  md := by simp [x0]
  wn := by simp [x0]
  wm := by simp [x0]
  wdk := by simp [x0]
  wk := by simp [x0]
  tr := rfl
  al := by intro i f h; simp [x0] at h
  un := by intro k h0 h1; left; simp [x0] at *; omega
  hs := by simp [x0, σ0, srt]
  kl := by simp [x0, σ0]; omega
  pr := by simp [x0, σ0]
  pf := by intro i f h; simp [x0] at h
  mtl := by simp [x0]
/-- the state ahead of the first turn -/
theorem start_ok {R : Prop} {w : World} {h₀ h : Heap} {L MT WD CM HS SN EV MN W TR T1 TD US T0 KN U dU E1 D1 I dI P S : Addr} {lim : Int} {oP oS omn ow otd okn oU o1 oI : Obj} {a1 a2 a3 a4 a5 b1 b2 c1 c2 c3 c4 d1 d2 : Tok}
    (NT : News h₀ L h [(T0, tupObj [.bytes fst0 d1, .none]), (T1, tupObj [.bytes fst0 d2, .none])])
    (N : News h₀ L h [(P, oP), (S, oS), (W, ow), (MN, omn), (EV, PySem.W.listOf #[.bytes fst0 a3] 0), (SN, PySem.W.listOf #[] 0), (HS, PySem.W.listOf #[.int 0 a2] 0), (CM, PySem.W.listOf #[] 0), (WD, PySem.W.listOf #[] 0), (MT, PySem.W.listOf #[.int 0 a1] 0),
      (I, instObj 98 dI), (dI, oI), (D1, o1), (E1, PySem.W.listOf #[.bytes fst0 a5] 0), (U, instObj 192 dU), (dU, oU), (KN, okn), (US, PySem.W.listOf #[.int 0 a4] 0), (TD, otd), (TR, PySem.W.listOf #[] 0)])
    (hP : Pen P 1 [(P, oP), (S, oS)]) (hID : IsuD w lim 0 1 D1 E1 oI) (hUD : UsrD w lim 0 0 KN US TD TR oU)
    (how : ow.IsDictOf (PySem.strKind PG w) [(Str.ofString "limit", .int lim c1), (Str.ofString "mine", .ref MN), (Str.ofString "ever", .ref EV), (Str.ofString "sent", .ref SN), (Str.ofString "asked", .int 0 c2), (Str.ofString "has", .ref HS), (Str.ofString "came", .ref CM), (Str.ofString "prior", .int 0 c3), (Str.ofString "word", .ref WD), (Str.ofString "now", .int 0 c4), (Str.ofString "met", .ref MT)])
    (homn : omn.IsDictOf (PySem.intKind PG w) [(0, .bytes fst0 b1)]) (ho1 : o1.IsDictOf (PySem.intKind PG w) [(0, .bytes fst0 b2)])
    (hokn : okn.IsDictOf (PySem.intKind PG w) [(0, .ref T0)]) (hotd : otd.IsDictOf (PySem.intKind PG w) [(0, .ref T1)])
    (m1 : (W == sysModules) = false) (m2 : (MN == sysModules) = false) (m3 : (D1 == sysModules) = false) (m4 : (KN == sysModules) = false) (m5 : (TD == sysModules) = false)
    (hasc : Asc [S, P, dI, I, D1, E1, dU, U, KN, T0, US, TD, T1, TR, W, MN, EV, SN, HS, CM, WD, MT]) (h2 : 2 ≤ lim) (h4 : lim ≤ 4)
    (k : ∀ TI x dk σ l tups, Whole w TI P W I U 1 x dk σ l → Inv 0 x dk σ → (∀ a o, TI a o → (a, o) ∈ tups) → Off l tups → News h₀ L h l → News h₀ L h tups → R) : R := by
  have nd := asc_nd hasc (idx := [1, 0, 14, 15, 16, 17, 18, 19, 20, 21, 3, 2, 4, 5, 7, 6, 8, 10, 11, 13, 9, 12]) (by decide) (show ∀ i ∈ [1, 0, 14, 15, 16, 17, 18, 19, 20, 21, 3, 2, 4, 5, 7, 6, 8, 10, 11, 13, 9, 12], i < 22 by decide)
  have nd1 : ([P, S, W, MN, EV, SN, HS, CM, WD, MT, I, dI, D1, E1, U, dU, KN, US, TD, TR] ++ [T0, T1]).Nodup := nd
  obtain ⟨q1, -, q2⟩ := List.nodup_append.mp nd1
  obtain ⟨s1, s2, s3, s4, s5, s6, s7, s8, s9, s10, s11, s12, s13, s14, s15, s16, s17, s18, s19, s20, s21, -⟩ := hasc
  refine k (fun a o => (a, o) ∈ [(T0, tupObj [.bytes fst0 d1, .none]), (T1, tupObj [.bytes fst0 d2, .none])]) (x0 lim) [0] σ0 _ [(T0, tupObj [.bytes fst0 d1, .none]), (T1, tupObj [.bytes fst0 d2, .none])]
    ⟨_, [_, _, _, _, _, _, _, _], [_, _, _, _], [_, _, _, _, _, _], rfl, hP, ?_, ?_, ?_, ?_⟩ (inv0 h2 h4) (fun _ _ h => h) ?_ N NT
  · exact ⟨MN, EV, SN, HS, CM, WD, MT, ow, omn, _, [.bytes fst0 a3], 0, [], 0, [.int 0 a2], 0, [], 0, [], 0, [.int 0 a1], 0, c1, c2, c3, c4, rfl, how, homn, ⟨rfl, fun p hp => by rw [List.mem_singleton.mp hp]; exact ⟨b1, rfl⟩⟩, .cons _ _ .nil, ⟨rfl, fun i v h => by simp at h⟩, .cons _ _ .nil, .nil, .nil, .cons _ _ .nil, m1, m2⟩
  · exact ⟨dI, D1, E1, oI, o1, _, [.bytes fst0 a5], 0, rfl, hID, ho1, ⟨rfl, fun p hp => by rw [List.mem_singleton.mp hp]; exact ⟨b2, rfl⟩⟩, .cons _ _ .nil, m3, s3, s4, s5⟩
  · refine ⟨dU, KN, US, TD, TR, oU, okn, otd, _, _, [.int 0 a4], 0, [], 0, rfl, hUD, hokn, ⟨rfl, fun p hp => ?_⟩, hotd, ⟨rfl, fun p hp => ?_⟩, .cons _ _ .nil, .nil, m4, m5, s7, s8, Nat.lt_trans s9 s10, s11, Nat.lt_trans s12 s13⟩
    · rw [List.mem_singleton.mp hp]; exact ⟨T0, d1, .none, rfl, .head _, fun _ => rfl, fun h => absurd rfl h⟩
    · rw [List.mem_singleton.mp hp]; exact ⟨T1, d2, .none, rfl, .tail _ (.head _), fun _ => rfl, fun h => absurd rfl h⟩
  · exact q1
  · intro p hp q hq
    exact (q2 p.1 (List.mem_map_of_mem hp) q.1 (List.mem_map_of_mem hq)).symm
/-- the same, of the ledger as the walk leaves it -/
theorem start_of {R : Prop} {w : World} {h₀ h : Heap} {L MT WD CM HS SN EV MN W TT TR T1 TD US T0 KN U dU E1 D1 I dI P S : Addr} {lim : Int} {oP oS oT omn ow otd okn oU o1 oI : Obj} {a1 a2 a3 a4 a5 b1 b2 c1 c2 c3 c4 d1 d2 : Tok}
    (N : News h₀ L h [(MT, PySem.W.listOf #[.int 0 a1] 0), (WD, PySem.W.listOf #[] 0), (CM, PySem.W.listOf #[] 0), (HS, PySem.W.listOf #[.int 0 a2] 0), (SN, PySem.W.listOf #[] 0), (EV, PySem.W.listOf #[.bytes fst0 a3] 0), (MN, omn), (W, ow), (TT, oT), (TR, PySem.W.listOf #[] 0),
      (T1, tupObj [.bytes fst0 d2, .none]), (TD, otd), (US, PySem.W.listOf #[.int 0 a4] 0), (T0, tupObj [.bytes fst0 d1, .none]), (KN, okn), (U, instObj 192 dU), (dU, oU), (E1, PySem.W.listOf #[.bytes fst0 a5] 0), (D1, o1), (I, instObj 98 dI), (dI, oI), (P, oP), (S, oS)])
    (hP : Pen P 1 [(P, oP), (S, oS)]) (hID : IsuD w lim 0 1 D1 E1 oI) (hUD : UsrD w lim 0 0 KN US TD TR oU)
    (how : ow.IsDictOf (PySem.strKind PG w) [(Str.ofString "limit", .int lim c1), (Str.ofString "mine", .ref MN), (Str.ofString "ever", .ref EV), (Str.ofString "sent", .ref SN), (Str.ofString "asked", .int 0 c2), (Str.ofString "has", .ref HS), (Str.ofString "came", .ref CM), (Str.ofString "prior", .int 0 c3), (Str.ofString "word", .ref WD), (Str.ofString "now", .int 0 c4), (Str.ofString "met", .ref MT)])
    (homn : omn.IsDictOf (PySem.intKind PG w) [(0, .bytes fst0 b1)]) (ho1 : o1.IsDictOf (PySem.intKind PG w) [(0, .bytes fst0 b2)])
    (hokn : okn.IsDictOf (PySem.intKind PG w) [(0, .ref T0)]) (hotd : otd.IsDictOf (PySem.intKind PG w) [(0, .ref T1)])
    (m1 : (W == sysModules) = false) (m2 : (MN == sysModules) = false) (m3 : (D1 == sysModules) = false) (m4 : (KN == sysModules) = false) (m5 : (TD == sysModules) = false)
    (hasc : Asc [S, P, dI, I, D1, E1, dU, U, KN, T0, US, TD, T1, TR, W, MN, EV, SN, HS, CM, WD, MT]) (h2 : 2 ≤ lim) (h4 : lim ≤ 4)
    (k : ∀ TI x dk σ l tups, Whole w TI P W I U 1 x dk σ l → Inv 0 x dk σ → (∀ a o, TI a o → (a, o) ∈ tups) → Off l tups → News h₀ L h l → News h₀ L h tups → R) : R := by
  exact start_ok (a1 := a1) (a2 := a2) (a3 := a3) (a4 := a4) (a5 := a5) (d1 := d1) (d2 := d2) (news_pick N (List.mem_of_getElem? (i := 13) rfl) (news_pick N (List.mem_of_getElem? (i := 10) rfl) News.nil))
    (news_pick N (List.mem_of_getElem? (i := 21) rfl) (news_pick N (List.mem_of_getElem? (i := 22) rfl) (news_pick N (List.mem_of_getElem? (i := 7) rfl) (news_pick N (List.mem_of_getElem? (i := 6) rfl) (news_pick N (List.mem_of_getElem? (i := 5) rfl) (news_pick N (List.mem_of_getElem? (i := 4) rfl) (news_pick N (List.mem_of_getElem? (i := 3) rfl) (news_pick N (List.mem_of_getElem? (i := 2) rfl) (news_pick N (List.mem_of_getElem? (i := 1) rfl) (news_pick N (List.mem_of_getElem? (i := 0) rfl) (news_pick N (List.mem_of_getElem? (i := 19) rfl) (news_pick N (List.mem_of_getElem? (i := 20) rfl) (news_pick N (List.mem_of_getElem? (i := 18) rfl) (news_pick N (List.mem_of_getElem? (i := 17) rfl) (news_pick N (List.mem_of_getElem? (i := 15) rfl) (news_pick N (List.mem_of_getElem? (i := 16) rfl) (news_pick N (List.mem_of_getElem? (i := 14) rfl) (news_pick N (List.mem_of_getElem? (i := 12) rfl) (news_pick N (List.mem_of_getElem? (i := 11) rfl) (news_pick N (List.mem_of_getElem? (i := 9) rfl) News.nil))))))))))))))))))))
    hP hID hUD how homn ho1 hokn hotd m1 m2 m3 m4 m5 hasc h2 h4 k
/-- what holds between two turns of the law's loop -/
def LoopJ (w : World) (P W I U : Addr) (t : Nat) (nx : List (Addr × Obj)) : Prop :=
  ∃ TI c x dk σ l tups, nx = l ++ tups ∧ Whole w TI P W I U c x dk σ l ∧ Inv t x dk σ ∧ (∀ a o, TI a o → (a, o) ∈ tups) ∧ Off l tups ∧ 0 ≤ c ∧ c ≤ 1 + 3 * (t : Int)
theorem loopJ_mk {w : World} {P W I U : Addr} {t : Nat} {TI : Addr → Obj → Prop} {c : Int} {x : Wst} {dk : List Int} {σ : Ust} {l tups : List (Addr × Obj)} (hA : Whole w TI P W I U c x dk σ l) (hV : Inv t x dk σ) (hTI : ∀ a o, TI a o → (a, o) ∈ tups) (hoff : Off l tups) (h0 : 0 ≤ c) (h1 : c ≤ 1 + 3 * (t : Int)) :
    LoopJ w P W I U t (l ++ tups) := ⟨TI, c, x, dk, σ, l, tups, rfl, hA, hV, hTI, hoff, h0, h1⟩
section
variable {prog : Program} {w : World} {A : Around} {E : Value → Shared → Prop} {s : Shared} {env : Env} {h₀ : Heap} {x : Str} {body : List Stmt} {Q : Flow → Shared → Prop}
/-- the end of a turn over a range -/
def TurnR (h₀ : Heap) (L : Addr) (x : Str) (m₀ : Str → Option Value) (I : Addr) (it : Obj) (J : List (Addr × Obj) → Prop) (Q : Flow → Shared → Prop) (s₁ : Shared) (f : Flow) (s₂ : Shared) : Prop :=
  (∃ v, f = .ret v ∧ Q (.ret v) s₂) ∨ ((f = .next ∨ f = .cont) ∧ ∃ h' tk m' nx, s₂ = { s₁ with heap := h', toks := tk } ∧ Fr h₀ L h' m' ∧ (∀ y, y ≠ x → m' y = m₀ y) ∧ News h₀ L h' ((I, it) :: nx) ∧ (∀ p ∈ nx, p.1 ≠ I) ∧ J nx)
theorem turnR_next {L I : Addr} {it : Obj} {m₀ m' : Str → Option Value} {J : List (Addr × Obj) → Prop} {nx : List (Addr × Obj)} {s₁ : Shared} {h' : Heap} {tk : Nat} (F : Fr h₀ L h' m') (N : News h₀ L h' ((I, it) :: nx)) (hm : ∀ y, y ≠ x → m' y = m₀ y) (ho : ∀ p ∈ nx, p.1 ≠ I) (hj : J nx) :
    TurnR h₀ L x m₀ I it J Q s₁ .next { s₁ with heap := h', toks := tk } := .inr ⟨.inl rfl, h', tk, m', nx, rfl, F, hm, N, ho, hj⟩
theorem iter_rangeJ {r : Addr} {a₀ b₀ : Int} {t₀ u₀ v₀ : Tok} {n : Nat} {m₀ : Str → Option Value} {news : List (Addr × Obj)} (J : Nat → List (Addr × Obj) → Prop)
    (hh : A.handled = none) (hr : IsRange s.heap r a₀ b₀ 1 t₀ u₀ v₀) (hsmall : Builtin.Range.small a₀ b₀ 1 = true) (hn : Builtin.Range.rangeSize a₀ b₀ 1 = (n : Int)) (F : Fr h₀ env.locals s.heap m₀) (N : News h₀ env.locals s.heap news) (h0 : J 0 news)
    (turn : ∀ i I it t nx h tk, i < n → (∀ p ∈ nx, p.1 ≠ I) → J i nx → Fr h₀ env.locals h (fun y => if y = x then some (.int (a₀ + (i : Int)) t) else m₀ y) → News h₀ env.locals h ((I, it) :: nx) →
      wpAny (model prog w) A (execs body env) (TurnR h₀ env.locals x m₀ I it (J (i + 1)) Q { s with heap := h, toks := tk }) E { s with heap := h, toks := tk })
    (done : ∀ v nx h tk, J n nx → Fr h₀ env.locals h (fun y => if y = x then v else m₀ y) → News h₀ env.locals h nx → Q .next { s with heap := h, toks := tk }) :
    wpAny (model prog w) A (pyIter (.ref r)) (fun it s₂ => LoopAtV prog w A h₀ env x body Q E it s₂) E s := by
  refine iter_rangeUnr hh hr hsmall hn F N fun I hI => ?_
  have key : ∀ k i (m : Str → Option Value) nx, i + k = n → (∀ y, y ≠ x → m y = m₀ y) → (∀ p ∈ nx, p.1 ≠ I) → J i nx → RangeRest prog w A E h₀ env x body Q s I a₀ n k i m nx := by
    intro k
    induction k with
    | zero =>
      intro i m nx hi hm ho hj
      obtain rfl : i = n := by omega
      refine RangeRest.zero fun h tk F₁ N₁ => done (m x) nx h tk hj ?_ N₁
      have e : (fun y => if y = x then m x else m₀ y) = m := by
        funext y
        by_cases h1 : y = x
        · simp [h1]
        · simp only [if_neg h1]; exact (hm y h1).symm
      rw [e]; exact F₁
    | succ k ih =>
      intro i m nx hi hm ho hj
      refine RangeRest.succ fun t h tk F₁ N₁ => ?_
      have e : (fun y => if y = x then some (Value.int (a₀ + (i : Int)) t) else m y) = fun y => if y = x then some (Value.int (a₀ + (i : Int)) t) else m₀ y := by
        funext y
        by_cases h1 : y = x
        · simp [h1]
        · simp only [if_neg h1]; exact hm y h1
      rw [e] at F₁
      refine wpAny_mono (turn i I _ t nx h tk (by omega) ho hj F₁ N₁) (fun f s₂ hq => ?_) fun _ _ e => e
      rcases hq with ⟨v, rfl, hq⟩ | ⟨hf, h', tk', m', nx', rfl, F', hm', N', ho', hj'⟩
      · exact hq
      · have : UnrEnd h₀ env.locals { s with heap := h, toks := tk } I (itR (a₀ + ((i + 1 : Nat) : Int)) ((n : Int) - ((i + 1 : Nat) : Int))) (RangeRest prog w A E h₀ env x body Q s I a₀ n k (i + 1)) { s with heap := h', toks := tk' } :=
          ⟨h', tk', m', nx', rfl, F', N', ho', ih (i + 1) m' nx' (by omega) hm' ho' hj'⟩
        rcases hf with rfl | rfl <;> exact this
  exact key n 0 m₀ news (by omega) (fun _ _ => rfl) (fun p hp => Nat.ne_of_lt (hI p hp)) h0
end
-- text Shp
/-! the shapes of bundles that a walk only hands on: addresses, and objects that it does not look into -/
theorem pen_shape {P : Addr} {c : Int} {pl : List (Addr × Obj)} (h : Pen P c pl) : ∃ S o₀ o₁, pl = [(P, o₀), (S, o₁)] := by
  obtain ⟨S, ws, ns, k₀, z, p1, p2, p3, rfl, hsI, hsl, hz0, hz1, hSP⟩ := h
  exact ⟨S, _, _, rfl⟩
theorem usr_shape {w : World} {TI : Addr → Obj → Prop} {U : Addr} {lim prior : Int} {ever : List By} {dk : List Int} {σ : Ust} {ul : List (Addr × Obj)} (h : Usr w TI U lim prior ever dk σ ul) :
    ∃ a₁ a₂ a₃ a₄ a₅ o₀ o₁ o₂ o₃ o₄ o₅, ul = [(U, o₀), (a₁, o₁), (a₂, o₂), (a₃, o₃), (a₄, o₄), (a₅, o₅)] := by
  obtain ⟨dU, KN, US, TD, TR, od, okn, otd, kvs1, kvs2, uvs, u1, tvs, u2, rfl, hD, hd1, hr1, hd2, hr2, hu, ht, lo1, lo2, l1, l2, l3, l4, l5⟩ := h
  exact ⟨_, _, _, _, _, _, _, _, _, _, _, rfl⟩
/-- the same, with what a call of a method looks into -/
theorem usr_shapeT {w : World} {TI : Addr → Obj → Prop} {U : Addr} {lim prior : Int} {ever : List By} {dk : List Int} {σ : Ust} {ul : List (Addr × Obj)} (h : Usr w TI U lim prior ever dk σ ul) :
    ∃ a₁ a₂ a₃ a₄ a₅ t1 t2 t3 t4 t5 t6 t7 t8 u1 u3 u5 o₂ o₃ o₄ o₅, ul = [(U, instObj 192 a₁), (a₁, usrO w lim σ.cur prior a₂ a₃ a₄ a₅ t1 t2 t3 t4 t5 t6 t7 t8 u1 u3 u5), (a₂, o₂), (a₃, o₃), (a₄, o₄), (a₅, o₅)] := by
  obtain ⟨dU, KN, US, TD, TR, od, okn, otd, kvs1, kvs2, uvs, u1, tvs, u2, rfl, ⟨t1, t2, t3, t4, t5, t6, t7, t8, z1, z3, z5, rfl⟩, hd1, hr1, hd2, hr2, hu, ht, lo1, lo2, l1, l2, l3, l4, l5⟩ := h
  exact ⟨_, _, _, _, _, _, _, _, _, _, _, _, _, _, _, _, _, _, _, _, rfl⟩
theorem map1 {a : Addr} {r : List Addr} {l : List (Addr × Obj)} (h : l.map (·.1) = a :: r) : ∃ o l', l = (a, o) :: l' ∧ l'.map (·.1) = r := by
  cases l with
  | nil => cases h
  | cons p l' =>
    obtain ⟨b, o⟩ := p
    simp only [List.map_cons, List.cons.injEq] at h
    obtain ⟨rfl, rfl⟩ := h
    exact ⟨o, l', rfl, rfl⟩
theorem map0 {l : List (Addr × Obj)} (h : l.map (·.1) = []) : l = [] := List.map_eq_nil_iff.mp h
theorem map_2 {a₀ a₁ : Addr} {l : List (Addr × Obj)} (h : l.map (·.1) = [a₀, a₁]) : ∃ o₀ o₁, l = [(a₀, o₀), (a₁, o₁)] := by
  obtain ⟨o₀, l1, rfl, h1⟩ := map1 h
  obtain ⟨o₁, l2, rfl, h2⟩ := map1 h1
  obtain rfl := map0 h2
  exact ⟨_, _, rfl⟩
theorem map_6 {a₀ a₁ a₂ a₃ a₄ a₅ : Addr} {l : List (Addr × Obj)} (h : l.map (·.1) = [a₀, a₁, a₂, a₃, a₄, a₅]) : ∃ o₀ o₁ o₂ o₃ o₄ o₅, l = [(a₀, o₀), (a₁, o₁), (a₂, o₂), (a₃, o₃), (a₄, o₄), (a₅, o₅)] := by
  obtain ⟨o₀, l1, rfl, h1⟩ := map1 h
  obtain ⟨o₁, l2, rfl, h2⟩ := map1 h1
  obtain ⟨o₂, l3, rfl, h3⟩ := map1 h2
  obtain ⟨o₃, l4, rfl, h4⟩ := map1 h3
  obtain ⟨o₄, l5, rfl, h5⟩ := map1 h4
  obtain ⟨o₅, l6, rfl, h6⟩ := map1 h5
  obtain rfl := map0 h6
  exact ⟨_, _, _, _, _, _, rfl⟩
theorem map_4 {a₀ a₁ a₂ a₃ : Addr} {l : List (Addr × Obj)} (h : l.map (·.1) = [a₀, a₁, a₂, a₃]) : ∃ o₀ o₁ o₂ o₃, l = [(a₀, o₀), (a₁, o₁), (a₂, o₂), (a₃, o₃)] := by
  obtain ⟨o₀, l1, rfl, h1⟩ := map1 h
  obtain ⟨o₁, l2, rfl, h2⟩ := map1 h1
  obtain ⟨o₂, l3, rfl, h3⟩ := map1 h2
  obtain ⟨o₃, l4, rfl, h4⟩ := map1 h3
  obtain rfl := map0 h4
  exact ⟨_, _, _, _, rfl⟩
-- text Kept
section
variable {w : World} {mean : ExcName → Option Value} {mg mb : Str → Option Value}
  {dp un : Nat} {gd : Option (List Code)} {cn : Str} {cs : Scope} {a : Addr} {ccd : Value} {cl : List (Str × Addr)} {outer : List Env} {A₀ : Around}
  {base h₀ : Heap} {L : Addr} {m : Str → Option Value} {s : Shared} {Q E : Value → Shared → Prop} {rest : List (Addr × Obj)}

set_option maxRecDepth 100000 in
set_option maxHeartbeats 8000000 in
theorem kept_spec (F : Fr h₀ L s.heap m) (B : Below A₀ base outer h₀) (X : (hd.heap_39 w.params).In h₀) (T : Top Mine.view (looseW Mine.view []) mean mg mb h₀) (hk : cs.kind = .function)
    (hdp : dp + 4 * 1 < recursionLimit) (hun : un + 30 * 1 < cLine)
    {I : Addr} {lim asked : Int} {mk : List Int} {ever : List By} {il : List (Addr × Obj)} (hI : Isu w I lim asked mk ever il) (hmk : mk.length ≤ 60)
    (N : News h₀ L s.heap (il ++ rest)) (hoff : Off il rest)
    (hQ : ∀ t h' tk', Fr h₀ L h' m → News h₀ L h' (il ++ rest) → Q (.int (mk.filter fun k => decide (asked ≤ k)).length t) { s with heap := h', toks := tk' }) :
    wpAny (model PG w) (ktrTop dp un gd cn cs L a ccd cl outer) (call (.ref 60) [.ref I]) Q E s := by
  walk_at "MY fill"
  obtain ⟨dI, D1, E1, od, o1, kvs, evs, n1, rfl, ⟨t1, t2, t3, t4, t5, t6, u1, u4, u5, rfl⟩, hd1, hdb, hev, lo, l1, l2, l3⟩ := hI
  refine call_subC (K := hd.heap_39 w.params) (binds := [(Str.ofString "self", .ref I)]) B F X T hk N hoff (by k_is) (by k_is) (by omega) (BindsTo.of_eq rfl) (by rfl) (by decide +kernel) ?_ rfl rfl rfl
  intro g L' h₁ tk cells FG hrest hback hlt F' N' Y' B' X' T'
  k_cells Y'
  simp only [List.cons_append, List.nil_append] at N'
  clear FG N F B X T hrest hoff hlt
  k_unmd
  k_fold
  k_steps
  refine src_dict (by rfl) F' N' lo (Heap.dictOf_iff.mpr ⟨o1, (N' (D1, o1) (by k_subL)).1, hd1⟩) hdb.keys (by omega) (fun k => decide (asked ≤ k)) (by rfl) (by with_unfolding_all rfl) (by decide) ?_ ?_
  · intro C k t s₃ m₃ E' hkm F' N' hC hx
    k_steps
    exact testEnd rfl
  · intro D h' tk' vs' n' F' N' hD hI'
    have hlen := hI'.length
    have hle := List.length_filter_le (fun k => decide (asked ≤ k)) mk
    k_steps
    rw [hlen]
    refine out_ F' N' fun F₁ N₁ => hQ _ _ _ F₁ (news_app (fun p hp => N₁ p (.tail _ (.tail _ hp))) (hback _ _ F'))
end
-- text Issue
section
variable {w : World} {mean : ExcName → Option Value} {mg mb : Str → Option Value}
  {dp un : Nat} {gd : Option (List Code)} {cn : Str} {cs : Scope} {a : Addr} {ccd : Value} {cl : List (Str × Addr)} {outer : List Env} {A₀ : Around}
  {base h₀ : Heap} {L : Addr} {m : Str → Option Value} {s : Shared} {Q E : Value → Shared → Prop} {rest : List (Addr × Obj)}

def tup5 (ta : Tok) (n : Int) (tn : Tok) (asked : Int) (tm : Tok) (cid : By) (tc : Tok) (tok : Value) : Obj :=
  { cls := .type "tuple", data := .seq (List.toArray [.str (Str.ofString "new_connection_id") ta, .int n tn, .int asked tm, .bytes cid tc, tok]) }

theorem cidOf_old {ever : List By} {c : By} {k : Int} (h0 : 0 ≤ k) (h : k < ever.length) : cidOf (ever ++ [c]) k = cidOf ever k := by
  have : k.toNat < ever.length := by omega
  simp only [cidOf, List.getD_eq_getElem?_getD, List.getElem?_append_left this]
theorem cidOf_new (ever : List By) (c : By) : cidOf (ever ++ [c]) (ever.length : Int) = c := by
  simp [cidOf, List.getD_eq_getElem?_getD]

local macro_rules | `(tactic| walk_at "call ref") => `(tactic| (k_here; (with_reducible show wpAny _ _ (call (Value.ref 60) _) _ _ _); k_dflt (refine' kept_spec (rest := []) ?B ?F ?X ?T ?k ?d ?u ?I ?z ?N ?o ?_; (case F => k_asm); (case B => k_asm); (case X => k_asm); (case T => k_asm); (case k => rfl); (case d => k_room); (case u => k_units); (case I => assumption); (case z => assumption); (case N => (rw [List.append_nil]; k_asm)); (case o => (intro _ _ _ hq; exact nomatch hq))); intro t' h' tk' F' N'; rw [List.append_nil] at N'))

set_option maxRecDepth 100000 in
set_option maxHeartbeats 8000000 in
theorem issue_spec (F : Fr h₀ L s.heap m) (B : Below A₀ base outer h₀) (X : (hd.heap_39 w.params).In h₀) (T : Top Mine.view (looseW Mine.view []) mean mg mb h₀) (hk : cs.kind = .function)
    (hdp : dp + 4 * 2 < recursionLimit) (hun : un + 30 * 2 < cLine)
    {I : Addr} {lim asked : Int} {mk : List Int} {ever : List By} {il : List (Addr × Obj)} (hI : Isu w I lim asked mk ever il) (hmk : mk.length ≤ 60) (hev60 : ever.length ≤ 60) (hlo : ∀ k ∈ mk, 0 ≤ k) (hhi : ∀ k ∈ mk, k < (ever.length : Int))
    (N : News h₀ L s.heap (il ++ rest)) (hoff : Off il rest) {cid : By} {tcid : Tok} {tok : Value}
    (hN : ¬ (((mk.filter fun k => decide (asked ≤ k)).length : Int) < lim ∧ cid ∉ ever) → ∀ h' tk', Fr h₀ L h' m → News h₀ L h' (il ++ rest) → Q .none { s with heap := h', toks := tk' })
    (hT : ((mk.filter fun k => decide (asked ≤ k)).length : Int) < lim → cid ∉ ever → ∀ D il' h' tk' ta tn tm tc, Isu w I lim asked (mk ++ [(ever.length : Int)]) (ever ++ [cid]) il' → il'.map (·.1) = il.map (·.1) → (∀ p ∈ il ++ rest, p.1 < D) →
      Fr h₀ L h' m → News h₀ L h' ((D, tup5 ta ever.length tn asked tm cid tc tok) :: (il' ++ rest)) → Q (.ref D) { s with heap := h', toks := tk' }) :
    wpAny (model PG w) (ktrTop dp un gd cn cs L a ccd cl outer) (call (.ref 74) [.ref I, .bytes cid tcid, tok]) Q E s := by
  walk_at "MY fill"
  obtain ⟨dI, D1, E1, od, o1, kvs, evs, n1, rfl, ⟨t1, t2, t3, t4, t5, t6, u1, u4, u5, rfl⟩, hd1, hdb, hev, lo, l1, l2, l3⟩ := id hI
  refine call_sub (K := hd.heap_39 w.params) (binds := [(Str.ofString "self", .ref I), (Str.ofString "cid", .bytes cid tcid), (Str.ofString "token", tok)]) B F X T hk N hoff (by k_is) (by k_is) (by omega) (BindsTo.of_eq rfl) (locs rfl) ?_ rfl rfl rfl (by decide)
  intro g L' h₁ FG hrest hback hlt F' N' B' X' T'
  clear FG N F B X T hrest hoff
  have hel := hev.length
  k_unmd
  k_fold
  walk_at "MY go"
  · exact out_ (by k_asm) (by k_asm) fun F₁ N₁ => hN (fun hh => hh.2 (by assumption)) _ _ F₁ (news_app N₁ (hback _ _ (by k_asm)))
  · refine out_ (by k_asm) (by k_asm) fun F₁ N₁ => ?_
    refine hT (by assumption) (by assumption) _ _ _ _ _ _ _ _ ?_ ?_ (fun p hp => Nat.lt_trans (hlt p hp) (by assumption)) F₁ (news_cons_app N₁ (hback _ _ (by k_asm)))
    rotate_left
    · rfl
    have e : ((ever ++ [cid]).length : Int) = ever.length + 1 := by simp
    refine ⟨dI, D1, E1, _, _, _, _, _, rfl, ?_, by assumption, ?_, hev.append (.cons cid tcid .nil), lo, l1, l2, l3⟩
    · rw [e]; exact ⟨_, _, _, _, _, _, _, _, _, rfl⟩
    · refine (hdb.mono fun k v hk hv => ?_).put (fun hm => ?_) ⟨tcid, by rw [cidOf_new]⟩
      · obtain ⟨t, rfl⟩ := hv
        exact ⟨t, by rw [cidOf_old (hlo k hk) (hhi k hk)]⟩
      · exact absurd (hhi _ hm) (Int.lt_irrefl _)
  · exact out_ (by k_asm) (by k_asm) fun F₁ N₁ => hN (fun hh => by first | exact absurd hh.1 (by assumption)) _ _ F₁ (news_app N₁ (hback _ _ (by k_asm)))
end
-- text AskRet
section
variable {w : World} {mean : ExcName → Option Value} {mg mb : Str → Option Value}
  {dp un : Nat} {gd : Option (List Code)} {cn : Str} {cs : Scope} {a : Addr} {ccd : Value} {cl : List (Str × Addr)} {outer : List Env} {A₀ : Around}
  {base h₀ : Heap} {L : Addr} {m : Str → Option Value} {s : Shared} {Q E : Value → Shared → Prop} {rest : List (Addr × Obj)}

set_option maxRecDepth 100000 in
set_option maxHeartbeats 8000000 in
theorem askret_spec (F : Fr h₀ L s.heap m) (B : Below A₀ base outer h₀) (X : (hd.heap_39 w.params).In h₀) (T : Top Mine.view (looseW Mine.view []) mean mg mb h₀) (hk : cs.kind = .function)
    (hdp : dp + 4 * 1 < recursionLimit) (hun : un + 30 * 1 < cLine)
    {I : Addr} {lim asked p : Int} {tp : Tok} {mk : List Int} {ever : List By} {il : List (Addr × Obj)} (hI : Isu w I lim asked mk ever il)
    (N : News h₀ L s.heap (il ++ rest)) (hoff : Off il rest)
    (hQ : ∀ il' h' tk', Isu w I lim (max asked (min p (ever.length : Int))) mk ever il' → il'.map (·.1) = il.map (·.1) → Fr h₀ L h' m → News h₀ L h' (il' ++ rest) → Q .none { s with heap := h', toks := tk' }) :
    wpAny (model PG w) (ktrTop dp un gd cn cs L a ccd cl outer) (call (.ref 81) [.ref I, .int p tp]) Q E s := by
  walk_at "MY fill"
  obtain ⟨dI, D1, E1, od, o1, kvs, evs, n1, rfl, ⟨t1, t2, t3, t4, t5, t6, u1, u4, u5, rfl⟩, hd1, hdb, hev', lo, l1, l2, l3⟩ := hI
  refine call_sub (K := hd.heap_39 w.params) (binds := [(Str.ofString "self", .ref I), (Str.ofString "prior", .int p tp)]) B F X T hk N hoff (by k_is) (by k_is) (by omega) (BindsTo.of_eq rfl) (locs rfl) ?_ rfl rfl rfl (by decide)
  intro g L' h₁ FG hrest hback hlt F' N' B' X' T'
  clear FG N F B X T hrest hoff
  have hq : max asked (min p (ever.length : Int)) = if (if p > (ever.length : Int) then (ever.length : Int) else p) > asked then (if p > (ever.length : Int) then (ever.length : Int) else p) else asked := by split <;> split at * <;> omega
  rw [hq] at hQ
  k_unmd
  k_fold
  walk_at "MY walk"
  rename Fr g L' _ _ => F₂; rename News g L' _ _ => N₂
  refine out_ F₂ N₂ fun F₁ N₁ => ?_
  refine hQ _ _ _ ?_ ?_ F₁ (news_app N₁ (hback _ _ F₂))
  rotate_left
  rfl
  exact ⟨dI, D1, E1, _, _, _, _, _, rfl, ⟨_, _, _, _, _, _, _, _, _, rfl⟩, hd1, hdb, hev', lo, l1, l2, l3⟩
end
-- text LIssue
section
variable {w : World} {mean : ExcName → Option Value} {mg mb : Str → Option Value}
  {dp un : Nat} {gd : Option (List Code)} {cn : Str} {cs : Scope} {a : Addr} {ccd : Value} {cl : List (Str × Addr)} {outer : List Env} {A₀ : Around}
  {base h₀ : Heap} {L : Addr} {m : Str → Option Value} {s : Shared} {Q E : Value → Shared → Prop} {rest : List (Addr × Obj)}

local macro_rules | `(tactic| walk_at "setItem ref int") => `(tactic| fail)
local macro_rules | `(tactic| walk_at "MY ru2") => `(tactic| (repeat' (walk_at "MY sc"; (fail_if_success (with_reducible show wpAny _ _ (call (Value.builtin "list.append") _) _ _ _)); walk_at "MY sq"; (fail_if_success (with_reducible show wpAny _ _ (newTuple _) _ _ _)); (fail_if_success (with_reducible show wpAny _ _ (setItem _ _ _) _ _ _)); walk_at "MY si"; walk_at "MY st")))

theorem sent_snoc {TI : Addr → Obj → Prop} {ever : List By} {vs : List Value} {fs : List Int} (h : SentAre TI ever vs fs) (hl : fs.length + 1 = ever.length) {c : By} {f : Int} {a : Addr} {tn tf tc : Tok} {tv : Value} (ht : TokR ((vs.length : Int) + 1) tv) :
    SentAre (TIx TI [(a, tupObj [.int ((vs.length : Int) + 1) tn, .int f tf, .bytes c tc, tv])]) (ever ++ [c]) (vs ++ [.ref a]) (fs ++ [f]) := by
  obtain ⟨h1, h2⟩ := h
  refine ⟨by simp [h1], fun i v hv => ?_⟩
  by_cases hi : i < vs.length
  · rw [List.getElem?_append_left hi] at hv
    obtain ⟨a', tn', tf', tc', tv', f', e1, e2, e3, e4⟩ := h2 i v hv
    refine ⟨a', tn', tf', tc', tv', f', e1, ?_, .inl ?_, e4⟩
    · rw [List.getElem?_append_left (by omega)]; exact e2
    · rw [cidOf_old (by omega) (by omega)]; exact e3
  · have hi' : i = vs.length := by
      have := (List.getElem?_eq_some_iff.mp hv).1
      simp at this; omega
    subst hi'
    simp at hv
    subst hv
    refine ⟨a, tn, tf, tc, tv, f, rfl, ?_, .inr ?_, ht⟩
    · rw [h1]; simp
    · have e : ((vs.length + 1 : Nat) : Int) = (ever.length : Int) := by omega
      have e2 : (vs.length : Int) + 1 = (ever.length : Int) := by omega
      rw [e, e2, cidOf_new]; exact .head _

set_option maxRecDepth 100000 in
set_option maxHeartbeats 8000000 in
theorem lissue_spec (F : Fr h₀ L s.heap m) (B : Below A₀ base outer h₀) (X : (hd.heap_39 w.params).In h₀) (T : Top Mine.view (looseW Mine.view []) mean mg mb h₀) (hk : cs.kind = .function)
    (hdp : dp + 4 * 3 < recursionLimit) (hun : un + 30 * 3 < cLine)
    {TI : Addr → Obj → Prop} {P W I : Addr} {c : Int} {x : Wst} {pl wl il : List (Addr × Obj)} (hP : Pen P c pl) (hW : Wd w TI W x wl) (hI : Isu w I x.lim x.asked x.mn x.ever il)
    (hc0 : 0 ≤ c) (hc1 : c ≤ 60) (hmk : x.mn.length ≤ 60) (hev : x.ever.length ≤ 60) (hfs : x.fs.length + 1 = x.ever.length) (hlo : ∀ k ∈ x.mn, 0 ≤ k) (hhi : ∀ k ∈ x.mn, k < (x.ever.length : Int))
    (hnd : ((pl ++ (wl ++ il)).map (·.1)).Nodup)
    (N : News h₀ L s.heap ((pl ++ (wl ++ il)) ++ rest)) (hoff : Off (pl ++ (wl ++ il)) rest)
    (hA : ∀ pl' h' tk', Pen P (c + 1) pl' → pl'.map (·.1) = pl.map (·.1) → Fr h₀ L h' m → News h₀ L h' ((pl' ++ (wl ++ il)) ++ rest) → Q (.bool true) { s with heap := h', toks := tk' })
    (hB : ∀ cid pl' wl' il' y h' tk', cid ∉ x.ever → ((x.mn.filter fun k => decide (x.asked ≤ k)).length : Int) < x.lim → Pen P (c + 1) pl' → Wd w (TIx TI [y]) W { x with mn := x.mn ++ [(x.ever.length : Int)], ever := x.ever ++ [cid], fs := x.fs ++ [x.asked] } wl' →
      Isu w I x.lim x.asked (x.mn ++ [(x.ever.length : Int)]) (x.ever ++ [cid]) il' → (pl' ++ (wl' ++ il')).map (·.1) = (pl ++ (wl ++ il)).map (·.1) → (∀ q ∈ (pl ++ (wl ++ il)) ++ rest, @LT.lt Nat _ q.1 y.1) → Fr h₀ L h' m → News h₀ L h' ((pl' ++ (wl' ++ il')) ++ (y :: rest)) → Q (.bool true) { s with heap := h', toks := tk' }) :
    wpAny (model PG w) (ktrTop dp un gd cn cs L a ccd cl outer) (call (.ref 208) [.ref P, .ref W, .ref I]) Q E s := by
  walk_at "MY fill"
  have hI0 := hI
  have hP0 := hP
  obtain ⟨S, op0, op1, rfl⟩ := pen_shape hP
  clear hP
  obtain ⟨dI, D1, E1, od, o1, kvs, ievs, i1, rfl, ⟨q1, q2, q3, q4, q5, q6, v1, v4, v5, rfl⟩, hd1, hdb, hiev, lo, l1, l2, l3⟩ := hI
  obtain ⟨MN, EV, SN, HS, CM, WD, MT, ow, omn, mkv, evs, n1, svs, n2, hv, n3, cv, n4, wv, n5, mv, n6, t1, t2, t3, t4, rfl, how, homn, hmkv, hevs, hsvs, hhv, hcv, hwv, hmv, loW, loM⟩ := hW
  obtain ⟨rk, r0, r1, r2, r3, r4, r5, r6, r7, r8, r9, r10, r11, r12, r13, _⟩ := ranks hnd 0
  clear hnd
  refine call_subC (K := hd.heap_39 w.params) (binds := [(Str.ofString "pen", .ref P), (Str.ofString "world", .ref W), (Str.ofString "issuer", .ref I)]) B F X T hk N hoff (by k_is) (by k_is) (by omega) (BindsTo.of_eq rfl) (by rfl) (by decide +kernel) ?_ rfl rfl rfl
  intro g L' h₁ tk cells FG hrest hback hlt F' N' Y' B' X' T'
  have hoff2 := fun l h L (N : News g L h l) => off_new N hrest
  k_cells Y'
  simp only [List.cons_append, List.nil_append] at N'
  have hltA := natLt hlt
  replace hlt := allLt_of hlt
  dsimp only [List.cons_append, List.nil_append, AllLt] at hlt
  clear FG N F B X T hrest hoff
  have hsl9 := hsvs.1
  have hel9 := hevs.length
  have zz1 : evs.length ≤ 1000 := by omega
  have zz2 : svs.length ≤ 1000 := by omega
  have zz3 : x.mn.length ≤ 1000 := by omega
  k_unmd
  k_fold
  walk_at "MY walk"
  rename News g L' _ _ => N₁
  replace N₁ := news_take 1 N₁
  simp only [List.drop, List.take, List.cons_append, List.nil_append] at N₁
  refine pick_spec (by k_asm) (by k_asm) (by k_asm) (by k_asm) rfl (by k_room) (by k_units) hP0 hc0 hc1 (by decide) N₁ (by walk_at "MY off") ?_
  intro k t pl' h' tk' hk0 hk1 hP' ha' F' N'
  have hP1 := hP'
  obtain ⟨op0', op1', rfl⟩ := map_2 ha'
  clear hP' ha'
  simp only [List.cons_append, List.nil_append] at N'
  clear hP0
  walk_at "MY walk"
  rename News g L' _ _ => N₂; rename Fr g L' _ _ => F₂
  refine bytes16 F₂ N₂ (by k_subL) (by omega) (by omega) (by rfl) ?_
  intro h' t9' k9' F' N'
  clear N₂ F₂
  walk_at "MY walk"
  rename News g L' _ _ => N₂
  have N₃ := (news_pick (a := I) N₂ (by k_subL) (news_pick (a := dI) N₂ (by k_subL) (news_pick (a := D1) N₂ (by k_subL) (news_pick (a := E1) N₂ (by k_subL) (news_pick (a := P) N₂ (by k_subL) (news_pick (a := S) N₂ (by k_subL) (news_pick (a := W) N₂ (by k_subL) (news_pick (a := MN) N₂ (by k_subL) (news_pick (a := EV) N₂ (by k_subL) (news_pick (a := SN) N₂ (by k_subL) (news_pick (a := HS) N₂ (by k_subL) (news_pick (a := CM) N₂ (by k_subL) (news_pick (a := WD) N₂ (by k_subL) (news_pick (a := MT) N₂ (by k_subL) (news_pick (a := L' + 1) N₂ (by k_subL) (News.nil))))))))))))))))
  refine issue_spec (il := [_, _, _, _]) (by k_asm) (by k_asm) (by k_asm) (by k_asm) rfl (by k_room) (by k_units) hI0 hmk hev hlo hhi N₃ (by walk_at "MY off") ?_ ?_
  · intro hn h' tk' F' N'
    simp only [List.cons_append, List.nil_append] at N'
    walk_at "MY walk"
    · rename Fr g L' _ _ => F₂; rename News g L' _ _ => N₂
      exact out_ F₂ N₂ fun F₁ N₁ => hA _ _ _ hP1 rfl F₁ (news_app (news_pick (a := P) N₁ (by k_subL) (news_pick (a := S) N₁ (by k_subL) (news_pick (a := W) N₁ (by k_subL) (news_pick (a := MN) N₁ (by k_subL) (news_pick (a := EV) N₁ (by k_subL) (news_pick (a := SN) N₁ (by k_subL) (news_pick (a := HS) N₁ (by k_subL) (news_pick (a := CM) N₁ (by k_subL) (news_pick (a := WD) N₁ (by k_subL) (news_pick (a := MT) N₁ (by k_subL) (news_pick (a := I) N₁ (by k_subL) (news_pick (a := dI) N₁ (by k_subL) (news_pick (a := D1) N₁ (by k_subL) (news_pick (a := E1) N₁ (by k_subL) (News.nil))))))))))))))) (hback _ _ F₂))
    rename Fr g L' _ _ => F₂; rename News g L' _ _ => N₂
    refine src_dict (by rfl) F₂ N₂ loM (Heap.dictOf_iff.mpr ⟨omn, (N₂ (MN, omn) (by k_subL)).1, homn⟩) hmkv.keys (by omega) (fun k => decide (x.asked ≤ k)) (by rfl) (by with_unfolding_all rfl) (by decide) ?_ ?_
    · intro C k t s₃ m₃ E' hkm F' N' hC hx
      walk_at "MY walk"
      exact testEnd rfl
    · intro D h' tk' vs' n' F' N' hD hI'
      have hlen := hI'.length
      have hle := List.length_filter_le (fun k => decide (x.asked ≤ k)) x.mn
      walk_at "MY walk"
      · rename Fr g L' _ _ => F₂; rename News g L' _ _ => N₂
        exact out_ F₂ N₂ fun F₁ N₁ => hA _ _ _ hP1 rfl F₁ (news_app (news_pick (a := P) N₁ (by k_subL) (news_pick (a := S) N₁ (by k_subL) (news_pick (a := W) N₁ (by k_subL) (news_pick (a := MN) N₁ (by k_subL) (news_pick (a := EV) N₁ (by k_subL) (news_pick (a := SN) N₁ (by k_subL) (news_pick (a := HS) N₁ (by k_subL) (news_pick (a := CM) N₁ (by k_subL) (news_pick (a := WD) N₁ (by k_subL) (news_pick (a := MT) N₁ (by k_subL) (news_pick (a := I) N₁ (by k_subL) (news_pick (a := dI) N₁ (by k_subL) (news_pick (a := D1) N₁ (by k_subL) (news_pick (a := E1) N₁ (by k_subL) (News.nil))))))))))))))) (hback _ _ F₂))
      · exfalso
        refine hn ⟨?_, by assumption⟩
        omega
  · intro hc hne D il' h' tk' ta tn tm tc hI' hil' hlt' F' N'
    have hI1 := hI'
    obtain ⟨oi0', oi1', oi2', oi3', rfl⟩ := map_4 hil'
    replace hlt' := allLt_of hlt'
    dsimp only [List.cons_append, List.nil_append, AllLt] at hlt'
    simp only [List.cons_append, List.nil_append] at N'
    walk_at "MY walk"
    rename Fr g L' _ _ => F₂; rename News g L' _ _ => N₂
    refine src_dict (by rfl) F₂ N₂ loM (Heap.dictOf_iff.mpr ⟨omn, (N₂ (MN, omn) (by k_subL)).1, homn⟩) hmkv.keys (by omega) (fun k => decide (x.asked ≤ k)) (by rfl) (by with_unfolding_all rfl) (by decide) ?_ ?_
    · intro C k t s₃ m₃ E' hkm F' N' hC hx
      walk_at "MY walk"
      exact testEnd rfl
    · intro D₂ h' tk' vs' n' F' N' hD hI'
      have hlen := hI'.length
      have hle := List.length_filter_le (fun k => decide (x.asked ≤ k)) x.mn
      have d1 : NeA D₂ MN := Ne.symm (hD (MN, _) (by k_subL))
      have d2 : NeA D₂ EV := Ne.symm (hD (EV, _) (by k_subL))
      have d3 : NeA D₂ SN := Ne.symm (hD (SN, _) (by k_subL))
      walk_at "MY ru2"
      try dsimp only
      rename Fr g L' _ _ => F₂; rename News g L' _ _ => N₂
      refine dict_put F₂ N₂ (by k_updF) homn hmkv (by omega) ?_
      intro h' o' F' N' hd'
      k_sweep
      walk_at "MY ru2"
      rename Fr g L' _ _ => F₂; rename News g L' _ _ => N₂
      refine list_app F₂ N₂ (by k_upd) (by omega) ?_
      intro h' F' N'
      k_sweep
      walk_at "MY ru2"
      rename Fr g L' _ _ => F₂; rename News g L' _ _ => N₂
      refine tuple_new (vs := [_, _, _, _]) F₂ N₂ ?_ (Nat.le_of_ble_eq_true rfl)
      intro Y hY F' N' lY l2Y
      replace lY := allLt_of lY
      dsimp only [AllLt] at lY
      clear F₂ N₂
      walk_at "MY ru2"
      rename Fr g L' _ _ => F₂; rename News g L' _ _ => N₂
      refine list_app F₂ N₂ (by k_upd) (by omega) ?_
      intro h' F' N'
      k_sweep
      walk_at "MY ru2"
      rename Fr g L' _ _ => F₂; rename News g L' _ _ => N₂
      refine tuple_new (vs := [_, _, _, _, _]) F₂ N₂ ?_ (Nat.le_of_ble_eq_true rfl)
      intro Z hZ F' N' lZ l2Z
      clear F₂ N₂
      walk_at "MY ru2"
      have hnn : (svs.length : Int) + 1 = (x.ever.length : Int) := by omega
      refine eq_tup (xs := [_, _, _, _, _]) (ys := [_, _, _, _, _]) (N' (D, _) (by k_subL)).1 (N' (Z, _) (.head _)).1 (by k_units) (.cons (at_str _ _ _) (.cons (by rw [hnn]; exact at_int _ _ _) (.cons (at_int _ _ _) (.cons (at_by _ _ _) (.cons (at_by _ _ _) .nil))))) ?_
      walk_at "MY walk"
      rename Fr g L' _ _ => F₂; rename News g L' _ _ => N₂
      refine out_ F₂ N₂ fun F₁ N₁ => ?_
      have N₅ := news_app (news_pick (a := P) N₁ (by k_subL) (news_pick (a := S) N₁ (by k_subL) (news_pick (a := W) N₁ (by k_subL) (news_pick (a := MN) N₁ (by k_subL) (news_pick (a := EV) N₁ (by k_subL) (news_pick (a := SN) N₁ (by k_subL) (news_pick (a := HS) N₁ (by k_subL) (news_pick (a := CM) N₁ (by k_subL) (news_pick (a := WD) N₁ (by k_subL) (news_pick (a := MT) N₁ (by k_subL) (news_pick (a := I) N₁ (by k_subL) (news_pick (a := dI) N₁ (by k_subL) (news_pick (a := D1) N₁ (by k_subL) (news_pick (a := E1) N₁ (by k_subL) (news_pick (a := Y) N₁ (by k_subL) (News.nil)))))))))))))))) (hback _ _ F₂)
      refine hB _ [_, _] [_, _, _, _, _, _, _, _] [_, _, _, _] _ _ _ hne hc hP1 ?_ hI1 ?_ ?_ F₁ N₅
      · refine ⟨MN, EV, SN, HS, CM, WD, MT, _, _, _, _, _, _, _, _, _, _, _, _, _, _, _, _, _, _, _, rfl, how, hd', ?_, hevs.append (.cons _ _ .nil), sent_snoc hsvs hfs ⟨fun h => absurd h (by omega), fun _ => ⟨_, rfl⟩⟩, hhv, hcv, hwv, hmv, loW, loM⟩
        show DictRel _ (stored mkv ((svs.length : Int) + 1) _) (x.mn ++ [(x.ever.length : Int)])
        rw [hnn]
        refine (hmkv.mono fun k v hk hv => ?_).put (fun hm => ?_) ⟨_, by rw [cidOf_new]⟩
        · obtain ⟨t, rfl⟩ := hv
          exact ⟨t, by rw [cidOf_old (hlo k hk) (hhi k hk)]⟩
        · exact absurd (hhi _ hm) (Int.lt_irrefl _)
      · rfl
      · intro q hq
        exact Nat.lt_trans (hltA q hq) l2Y
end
-- text Change
section
variable {w : World} {mean : ExcName → Option Value} {mg mb : Str → Option Value}
  {dp un : Nat} {gd : Option (List Code)} {cn : Str} {cs : Scope} {a : Addr} {ccd : Value} {cl : List (Str × Addr)} {outer : List Env} {A₀ : Around}
  {base h₀ : Heap} {L : Addr} {m : Str → Option Value} {s : Shared} {Q E : Value → Shared → Prop} {rest : List (Addr × Obj)}

set_option maxRecDepth 100000 in
set_option maxHeartbeats 8000000 in
theorem change_spec (F : Fr h₀ L s.heap m) (B : Below A₀ base outer h₀) (X : (hd.heap_39 w.params).In h₀) (T : Top Mine.view (looseW Mine.view []) mean mg mb h₀) (hk : cs.kind = .function)
    (hdp : dp + 4 * 3 < recursionLimit) (hun : un + 30 * 3 < cLine)
    {TI : Addr → Obj → Prop} {U : Addr} {lim prior : Int} {ever : List By} {dk : List Int} {σ : Ust} {ul : List (Addr × Obj)} (hU : Usr w TI U lim prior ever dk σ ul) (hkk : σ.kk.length ≤ 15) (hus : σ.us.length ≤ 90) (htr : σ.tr.length ≤ 90) (hcur : σ.cur ∈ σ.kk)
    (N : News h₀ L s.heap (ul ++ rest)) (hoff : Off ul rest)
    (hN : leftOf σ = [] → ∀ h' tk', Fr h₀ L h' m → News h₀ L h' (ul ++ rest) → Q (.bool false) { s with heap := h', toks := tk' })
    (hS : ∀ k r, leftOf σ = k :: r → ∀ ul' h' tk', Usr w TI U lim prior ever dk (ret1 (useU σ k) σ.cur) ul' → ul'.map (·.1) = ul.map (·.1) → Fr h₀ L h' m → News h₀ L h' (ul' ++ rest) → Q (.bool true) { s with heap := h', toks := tk' }) :
    wpAny (model PG w) (ktrTop dp un gd cn cs L a ccd cl outer) (call (.ref 177) [.ref U]) Q E s := by
  walk_at "MY fill"
  have hU0 := hU
  obtain ⟨dU, KN, US, TD, TR, od, okn, otd, kvs1, kvs2, uvs, n1, tvs, n2, rfl, ⟨t1, t2, t3, t4, t5, t6, t7, t8, u1, u3, u5, rfl⟩, hd1, hr1, hd2, hr2, hu, ht, lo1, lo2, l1, l2, l3, l4, l5⟩ := hU
  refine call_sub (K := hd.heap_39 w.params) (binds := [(Str.ofString "self", .ref U)]) B F X T hk N hoff (by k_is) (by k_is) (by omega) (BindsTo.of_eq rfl) (locs rfl) ?_ rfl rfl rfl (by decide)
  intro g L' h₁ FG hrest hback hlt F' N' B' X' T'
  clear FG N F B X T hrest hoff hlt
  k_unmd
  k_fold
  walk_at "MY walk"
  refine fresh_spec (rest := []) (by k_asm) (by k_asm) (by k_asm) (by k_asm) rfl (by k_room) (by k_units) hU0 hkk (nilApp N') (offNil _) ?_ ?_
  · intro hl h' tk' F' N'
    have N' := appNil N'
    walk_at "MY walk"
    refine out_ (by k_asm) (by k_asm) fun F₁ N₁ => ?_
    exact hN hl _ _ F₁ (news_app (news_tl N₁) (hback _ _ (by k_asm)))
  · intro k r t hl h' tk' F' N'
    have N' := appNil N'
    have hle : (leftOf σ).length ≤ σ.kk.length := Nat.le_trans (List.length_filter_le _ _) (by rw [srt_len]; omega)
    walk_at "MY walk"
    rename News g L' _ _ => N₂
    refine use_spec (rest := []) (by k_asm) (by k_asm) (by k_asm) (by k_asm) rfl (by k_room) (by k_units) hU0 (by omega) (nilApp (news_tl N₂)) (offNil _) ?_
    intro ul' h' tk' hU' ha' F' N'
    have N' := appNil N'
    have hU₁ := hU'
    obtain ⟨dU, KN, US, TD, TR, od, okn, otd, kvs1, kvs2, uvs, n1, tvs, n2, rfl, ⟨t1, t2, t3, t4, t5, t6, t7, t8, u1, u3, u5, rfl⟩, hd1, hr1, hd2, hr2, hu, ht, lo1, lo2, l1, l2, l3, l4, l5⟩ := hU'
    walk_at "MY walk"
    have hcl := addU_len σ.us k
    refine retire_spec (rest := []) (by k_asm) (by k_asm) (by k_asm) (by k_asm) rfl (by k_room) (by k_units) hU₁ (by show (addU σ.us k).length ≤ 99; omega) (by show σ.tr.length ≤ 100; omega) (by show σ.kk.length ≤ 60; omega) hcur (nilApp N') (offNil _) ?_
    intro ul₂ h' tk' hU₂ ha₂ F' N'
    have N' := appNil N'
    walk_at "MY walk"
    exact out_ F' N' fun F₁ N₁ => hS k r hl ul₂ _ _ hU₂ (ha₂.trans ha') F₁ (news_app N₁ (hback _ _ F'))
end
-- text LChanged
section
variable {w : World} {mean : ExcName → Option Value} {mg mb : Str → Option Value}
  {dp un : Nat} {gd : Option (List Code)} {cn : Str} {cs : Scope} {a : Addr} {ccd : Value} {cl : List (Str × Addr)} {outer : List Env} {A₀ : Around}
  {base h₀ : Heap} {L : Addr} {m : Str → Option Value} {s : Shared} {Q E : Value → Shared → Prop} {rest : List (Addr × Obj)}
local macro_rules | `(tactic| walk_at "MY ru2") => `(tactic| (repeat' (walk_at "MY sc"; walk_at "MY sq"; (fail_if_success (with_reducible show wpAny _ _ (call (Value.builtin "list.remove") _) _ _ _)); walk_at "MY si"; walk_at "MY st")))

set_option maxRecDepth 100000 in
set_option maxHeartbeats 8000000 in
theorem lchanged_spec (F : Fr h₀ L s.heap m) (B : Below A₀ base outer h₀) (X : (hd.heap_39 w.params).In h₀) (T : Top Mine.view (looseW Mine.view []) mean mg mb h₀) (hk : cs.kind = .function)
    (hdp : dp + 4 * 4 < recursionLimit) (hun : un + 30 * 4 < cLine)
    {TI : Addr → Obj → Prop} {W U : Addr} {x : Wst} {lim prior : Int} {ever : List By} {dk : List Int} {σ : Ust} {wl ul : List (Addr × Obj)} (hW : Wd w TI W x wl) (hU : Usr w TI U lim prior ever dk σ ul)
    (hkk : σ.kk.length ≤ 15) (hus : σ.us.length ≤ 90) (htr : σ.tr.length ≤ 90) (hcur : σ.cur ∈ σ.kk) (hhs : x.hs.length ≤ 60) (hwd : x.wd.length ≤ 200) (hmt : x.mt.length ≤ 200) (hnow : x.now ∈ x.hs) (hhn : x.hs.Nodup)
    (hleft : leftOf σ = (srt x.hs).filter fun k => !decide (k ∈ x.mt)) (hnd : ((wl ++ ul).map (·.1)).Nodup)
    (N : News h₀ L s.heap ((wl ++ ul) ++ rest)) (hoff : Off (wl ++ ul) rest)
    (hN : leftOf σ = [] → ∀ h' tk', Fr h₀ L h' m → News h₀ L h' ((wl ++ ul) ++ rest) → Q (.bool true) { s with heap := h', toks := tk' })
    (hS : ∀ k r, leftOf σ = k :: r → ∀ wl' ul' h' tk', Wd w TI W { x with hs := dropK x.hs x.now, wd := x.wd ++ [x.now], now := k, mt := x.mt ++ [k] } wl' → Usr w TI U lim prior ever dk (ret1 (useU σ k) σ.cur) ul' → (wl' ++ ul').map (·.1) = (wl ++ ul).map (·.1) →
      Fr h₀ L h' m → News h₀ L h' ((wl' ++ ul') ++ rest) → Q (.bool true) { s with heap := h', toks := tk' }) :
    wpAny (model PG w) (ktrTop dp un gd cn cs L a ccd cl outer) (call (.ref 218) [.ref W, .ref U]) Q E s := by
  walk_at "MY fill"
  have hU0 := hU
  obtain ⟨dU, KN, US, TD, TR, y1, y2, y3, y4, y5, y6, y7, y8, z1, z3, z5, ou2, ou3, ou4, ou5, rfl⟩ := usr_shapeT hU
  clear hU
  obtain ⟨MN, EV, SN, HS, CM, WD, MT, ow, omn, mkv, evs, n1, svs, n2, hv, n3, cv, n4, wv, n5, mv, n6, t1, t2, t3, t4, rfl, how, homn, hmkv, hevs, hsvs, hhv, hcv, hwv, hmv, loW, loM⟩ := hW
  obtain ⟨rk, r0, r1, r2, r3, r4, r5, r6, r7, r8, r9, r10, r11, r12, r13, _⟩ := ranks hnd 0
  clear hnd
  refine call_subC (K := hd.heap_39 w.params) (binds := [(Str.ofString "world", .ref W), (Str.ofString "user", .ref U)]) B F X T hk N hoff (by k_is) (by k_is) (by omega) (BindsTo.of_eq rfl) (by rfl) (by decide +kernel) ?_ rfl rfl rfl
  intro g L' h₁ tk cells FG hrest hback hlt F' N' Y' B' X' T'
  k_cells Y'
  simp only [List.cons_append, List.nil_append] at N'
  replace hlt := allLt_of hlt
  dsimp only [List.cons_append, List.nil_append, AllLt] at hlt
  clear FG N F B X T hrest hoff
  have hhl := hhv.length
  have hwl := hwv.length
  have hml := hmv.length
  have hsl := srt_len x.hs
  k_unmd
  k_fold
  walk_at "MY walk"
  rename News g L' _ _ => N₂; rename Fr g L' _ _ => F₂; rename IntsAre _ (srt x.hs) => hi
  refine srcA_list (by rfl) F₂ N₂ ⟨_, (N₂ _ (List.Mem.head _)).1, rfl, _, rfl⟩ hi (by omega) (fun k => !decide (k ∈ x.mt)) (by rfl) (by with_unfolding_all rfl) (by decide) ?_ ?_
  · intro C k t s₃ m₃ E' hkm F' N' hC hx
    walk_at "MY walk"
    exact testEnd rfl
  · intro D h' tk' vs' n' F' N' hD hI'
    have hI2 : IntsAre vs' (leftOf σ) := by rw [hleft]; exact hI'
    clear hI'
    have neD_0 : NeA D U := Ne.symm (hD (U, _) (by k_subL))
    have neD_1 : NeA D dU := Ne.symm (hD (dU, _) (by k_subL))
    have neD_2 : NeA D KN := Ne.symm (hD (KN, _) (by k_subL))
    have neD_3 : NeA D US := Ne.symm (hD (US, _) (by k_subL))
    have neD_4 : NeA D TD := Ne.symm (hD (TD, _) (by k_subL))
    have neD_5 : NeA D TR := Ne.symm (hD (TR, _) (by k_subL))
    have neD_6 : NeA D W := Ne.symm (hD (W, _) (by k_subL))
    have neD_7 : NeA D MN := Ne.symm (hD (MN, _) (by k_subL))
    have neD_8 : NeA D EV := Ne.symm (hD (EV, _) (by k_subL))
    have neD_9 : NeA D SN := Ne.symm (hD (SN, _) (by k_subL))
    have neD_10 : NeA D HS := Ne.symm (hD (HS, _) (by k_subL))
    have neD_11 : NeA D CM := Ne.symm (hD (CM, _) (by k_subL))
    have neD_12 : NeA D WD := Ne.symm (hD (WD, _) (by k_subL))
    have neD_13 : NeA D MT := Ne.symm (hD (MT, _) (by k_subL))
    clear hD N₂ F₂
    generalize hl : leftOf σ = left at hI2 hN hS
    cases hI2 with
    | nil =>
      walk_at "MY ru2"
      rename Fr g L' _ _ => F₂; rename News g L' _ _ => N₂
      refine ke_ne_ints (ns := []) (ms := []) ⟨_, (N₂ (D, _) (by k_subL)).1, rfl, _, rfl⟩ ⟨_, (N₂ _ (List.Mem.head _)).1, rfl, _, rfl⟩ .nil .nil (by k_units) ?_
      rw [show (!decide (([] : List Int) = [])) = false from rfl]
      walk_at "MY ru2"
      have N₃ := (news_pick (a := U) N₂ (by k_subL) (news_pick (a := dU) N₂ (by k_subL) (news_pick (a := KN) N₂ (by k_subL) (news_pick (a := US) N₂ (by k_subL) (news_pick (a := TD) N₂ (by k_subL) (news_pick (a := TR) N₂ (by k_subL) (news_pick (a := W) N₂ (by k_subL) (news_pick (a := MN) N₂ (by k_subL) (news_pick (a := EV) N₂ (by k_subL) (news_pick (a := SN) N₂ (by k_subL) (news_pick (a := HS) N₂ (by k_subL) (news_pick (a := CM) N₂ (by k_subL) (news_pick (a := WD) N₂ (by k_subL) (news_pick (a := MT) N₂ (by k_subL) (news_pick (a := D) N₂ (by k_subL) (news_pick (a := L' + 1) N₂ (by k_subL) (News.nil)))))))))))))))))
      refine change_spec (ul := [_, _, _, _, _, _]) (by k_asm) (by k_asm) (by k_asm) (by k_asm) rfl (by k_room) (by k_units) hU0 hkk hus htr hcur N₃ (by walk_at "MY off") ?_ (fun k r hl' => absurd (hl.symm.trans hl') (by simp))
      intro _ h' tk' F' N'
      simp only [List.cons_append, List.nil_append] at N'
      clear N₂ F₂
      walk_at "MY ru2"
      rename Fr g L' _ _ => F₂; rename News g L' _ _ => N₂
      refine ke_ne_ints (ns := []) (ms := []) ⟨_, (N₂ (D, _) (by k_subL)).1, rfl, _, rfl⟩ ⟨_, (N₂ _ (List.Mem.head _)).1, rfl, _, rfl⟩ .nil .nil (by k_units) ?_
      rw [show (!decide (([] : List Int) = [])) = false from rfl]
      walk_at "MY ru2"
      rename Fr g L' _ _ => F₂; rename News g L' _ _ => N₂
      exact out_ F₂ N₂ fun F₁ N₁ => hN rfl _ _ F₁ (news_app (news_pick (a := W) N₁ (by k_subL) (news_pick (a := MN) N₁ (by k_subL) (news_pick (a := EV) N₁ (by k_subL) (news_pick (a := SN) N₁ (by k_subL) (news_pick (a := HS) N₁ (by k_subL) (news_pick (a := CM) N₁ (by k_subL) (news_pick (a := WD) N₁ (by k_subL) (news_pick (a := MT) N₁ (by k_subL) (news_pick (a := U) N₁ (by k_subL) (news_pick (a := dU) N₁ (by k_subL) (news_pick (a := KN) N₁ (by k_subL) (news_pick (a := US) N₁ (by k_subL) (news_pick (a := TD) N₁ (by k_subL) (news_pick (a := TR) N₁ (by k_subL) (News.nil))))))))))))))) (hback _ _ F₂))
    | cons k t hI2 =>
      rename_i vs₂ r
      walk_at "MY ru2"
      rename Fr g L' _ _ => F₂; rename News g L' _ _ => N₂
      refine ke_ne_ints (ns := k :: r) (ms := []) ⟨_, (N₂ (D, _) (by k_subL)).1, rfl, _, rfl⟩ ⟨_, (N₂ _ (List.Mem.head _)).1, rfl, _, rfl⟩ (.cons k t hI2) .nil (by k_units) ?_
      rw [show (!decide (k :: r = ([] : List Int))) = true from rfl]
      walk_at "MY ru2"
      rename Fr g L' _ _ => F₂; rename News g L' _ _ => N₂
      refine list_rm F₂ N₂ (by k_updF) hhv hnow hhn (by omega) ?_
      intro h' hv' n3' F' N' hhv'
      clear F₂ N₂
      walk_at "MY ru2"
      rename News g L' _ _ => N₂
      have N₃ := (news_pick (a := U) N₂ (by k_subL) (news_pick (a := dU) N₂ (by k_subL) (news_pick (a := KN) N₂ (by k_subL) (news_pick (a := US) N₂ (by k_subL) (news_pick (a := TD) N₂ (by k_subL) (news_pick (a := TR) N₂ (by k_subL) (news_pick (a := W) N₂ (by k_subL) (news_pick (a := MN) N₂ (by k_subL) (news_pick (a := EV) N₂ (by k_subL) (news_pick (a := SN) N₂ (by k_subL) (news_pick (a := HS) N₂ (by k_subL) (news_pick (a := CM) N₂ (by k_subL) (news_pick (a := WD) N₂ (by k_subL) (news_pick (a := MT) N₂ (by k_subL) (news_pick (a := D) N₂ (by k_subL) (news_pick (a := L' + 1) N₂ (by k_subL) (News.nil)))))))))))))))))
      refine change_spec (ul := [_, _, _, _, _, _]) (by k_asm) (by k_asm) (by k_asm) (by k_asm) rfl (by k_room) (by k_units) hU0 hkk hus htr hcur N₃ (by walk_at "MY off") (fun hl' => absurd (hl.symm.trans hl') (by simp)) ?_
      intro k₁ r₁ hl₁ ul' h' tk' hU' ha' F' N'
      obtain ⟨rfl, rfl⟩ : k = k₁ ∧ r = r₁ := by simpa using hl.symm.trans hl₁
      have hU1 := hU'
      obtain ⟨o0', o1', o2', o3', o4', o5', rfl⟩ := map_6 ha'
      simp only [List.cons_append, List.nil_append] at N'
      clear N₂ N₃
      walk_at "MY ru2"
      rename Fr g L' _ _ => F₂; rename News g L' _ _ => N₂
      refine ke_ne_ints (ns := k :: r) (ms := []) ⟨_, (N₂ (D, _) (by k_subL)).1, rfl, _, rfl⟩ ⟨_, (N₂ _ (List.Mem.head _)).1, rfl, _, rfl⟩ (.cons k t hI2) .nil (by k_units) ?_
      rw [show (!decide (k :: r = ([] : List Int))) = true from rfl]
      walk_at "MY ru2"
      rename Fr g L' _ _ => F₂; rename News g L' _ _ => N₂
      refine out_ F₂ N₂ fun F₁ N₁ => ?_
      have N₅ := news_app (news_pick (a := W) N₁ (by k_subL) (news_pick (a := MN) N₁ (by k_subL) (news_pick (a := EV) N₁ (by k_subL) (news_pick (a := SN) N₁ (by k_subL) (news_pick (a := HS) N₁ (by k_subL) (news_pick (a := CM) N₁ (by k_subL) (news_pick (a := WD) N₁ (by k_subL) (news_pick (a := MT) N₁ (by k_subL) (news_pick (a := U) N₁ (by k_subL) (news_pick (a := dU) N₁ (by k_subL) (news_pick (a := KN) N₁ (by k_subL) (news_pick (a := US) N₁ (by k_subL) (news_pick (a := TD) N₁ (by k_subL) (news_pick (a := TR) N₁ (by k_subL) (News.nil))))))))))))))) (hback _ _ F₂)
      refine hS k r rfl [_, _, _, _, _, _, _, _] [_, _, _, _, _, _] _ _ ?_ hU1 ?_ F₁ N₅
      · refine ⟨MN, EV, SN, HS, CM, WD, MT, _, _, _, _, _, _, _, _, _, _, _, _, _, _, _, _, _, _, _, rfl, by assumption, homn, hmkv, hevs, hsvs, hhv', hcv, hwv.append (.cons _ _ .nil), hmv.append (.cons _ _ .nil), loW, loM⟩
      · rfl
end
-- text OnRet
section
variable {w : World} {mean : ExcName → Option Value} {mg mb : Str → Option Value}
  {dp un : Nat} {gd : Option (List Code)} {cn : Str} {cs : Scope} {a : Addr} {ccd : Value} {cl : List (Str × Addr)} {outer : List Env} {A₀ : Around}
  {base h₀ : Heap} {L : Addr} {m : Str → Option Value} {s : Shared} {Q E : Value → Shared → Prop} {rest : List (Addr × Obj)}

set_option maxRecDepth 100000 in
set_option maxHeartbeats 8000000 in
theorem onret_spec (F : Fr h₀ L s.heap m) (B : Below A₀ base outer h₀) (X : (hd.heap_39 w.params).In h₀) (T : Top Mine.view (looseW Mine.view []) mean mg mb h₀) (hk : cs.kind = .function)
    (hdp : dp + 4 * 1 < recursionLimit) (hun : un + 30 * 1 < cLine)
    {I : Addr} {lim asked n j : Int} {tn tu : Tok} {mk : List Int} {ever : List By} {il : List (Addr × Obj)} (hI : Isu w I lim asked mk ever il) (hmk : mk.length ≤ 60) (hev : ever.Nodup) (hn : n ∈ mk) (hn0 : 0 ≤ n) (hn1 : n < (ever.length : Int)) (hj0 : 0 ≤ j) (hj1 : j < (ever.length : Int)) (hne : n ≠ j)
    (N : News h₀ L s.heap (il ++ rest)) (hoff : Off il rest)
    (hQ : ∀ il' h' tk', Isu w I lim asked (dropK mk n) ever il' → il'.map (·.1) = il.map (·.1) → Fr h₀ L h' m → News h₀ L h' (il' ++ rest) → Q .none { s with heap := h', toks := tk' }) :
    wpAny (model PG w) (ktrTop dp un gd cn cs L a ccd cl outer) (call (.ref 88) [.ref I, .int n tn, .bytes (cidOf ever j) tu]) Q E s := by
  walk_at "MY fill"
  obtain ⟨dI, D1, E1, od, o1, kvs, evs, n1, rfl, ⟨t1, t2, t3, t4, t5, t6, u1, u4, u5, rfl⟩, hd1, hdb, hev', lo, l1, l2, l3⟩ := hI
  refine call_sub (K := hd.heap_39 w.params) (binds := [(Str.ofString "self", .ref I), (Str.ofString "number", .int n tn), (Str.ofString "used", .bytes (cidOf ever j) tu)]) B F X T hk N hoff (by k_is) (by k_is) (by omega) (BindsTo.of_eq rfl) (locs rfl) ?_ rfl rfl rfl (by decide)
  intro g L' h₁ FG hrest hback hlt F' N' B' X' T'
  clear FG N F B X T hrest hoff
  have hcn := cid_ne hev hn0 hn1 hj0 hj1 hne
  k_unmd
  k_fold
  walk_at "MY walk"
  all_goals first
    | contradiction
    | (refine out_ (by k_asm) (by k_asm) fun F₁ N₁ => ?_
       refine hQ _ _ _ ?_ ?_ F₁ (news_app N₁ (hback _ _ (by k_asm)))
       rotate_left
       rfl
       exact ⟨dI, D1, E1, _, _, _, _, _, rfl, ⟨_, _, _, _, _, _, _, _, _, rfl⟩, by assumption, hdb.del n, hev', lo, l1, l2, l3⟩)
end
-- text LWords
section
variable {w : World} {mean : ExcName → Option Value} {mg mb : Str → Option Value}
  {dp un : Nat} {gd : Option (List Code)} {cn : Str} {cs : Scope} {a : Addr} {ccd : Value} {cl : List (Str × Addr)} {outer : List Env} {A₀ : Around}
  {base h₀ : Heap} {L : Addr} {m : Str → Option Value} {s : Shared} {Q E : Value → Shared → Prop} {rest : List (Addr × Obj)}
local macro_rules | `(tactic| k_ne) => `(tactic| (first | exact NeA.ne (by with_reducible assumption) | exact NeA.ne (NeA.symm (by with_reducible assumption)) | exact off_ne (by with_reducible assumption) (by k_mem) (by k_mem) | exact Ne.symm (off_ne (by with_reducible assumption) (by k_mem) (by k_mem)) | exact rk_ne (by with_reducible assumption) (by with_reducible assumption) rfl | exact ne_suc1 (by k_clsL) | exact ne_suc2 (by k_clsL) | exact ne_lt (by k_clsL) | exact ne_gt (by k_clsL) | (refine neN ?_; (try dsimp only); omega)))
local macro_rules | `(tactic| walk_at "MY ru2") => `(tactic| (repeat' (walk_at "MY sc"; walk_at "MY sq"; (fail_if_success (with_reducible show wpAny _ _ (call (Value.builtin "list.remove") _) _ _ _)); walk_at "MY sl"; walk_at "MY si"; walk_at "MY st")))
local macro_rules | `(tactic| walk_at "eval ListComp") => `(tactic| (k_here; k_dflt (refine compU (by k_asm) (by with_unfolding_all rfl) (by decide) (by rfl) (by decide) (by rfl) (by intro _; with_unfolding_all rfl) ?_)))
local macro_rules | `(tactic| walk_at "newTuple") => `(tactic| (k_here; k_dflt (refine' tuple_new ?F ?N ?_ ?z; (case F => k_asm); (case N => k_asm); (case z => exact Nat.le_of_ble_eq_true rfl)); intro D' h' F' N' l1 l2; (try k_sweep)))
local macro_rules | `(tactic| walk_at "subscriptTail") => `(tactic| (k_here; (with_reducible show wpAny _ _ (subscriptTail _ _ (Value.ref _) (Value.str _ _)) _ _ _); k_dflt (refine kda_item (knd := PySem.strKind _ _) (by k_asm) (by k_subL) (by k_asm) (strKind_is _ _ _ _) (by rfl) ?_)))
local macro_rules | `(tactic| walk_at "subscriptTail") => `(tactic| (k_here; (with_reducible show wpAny _ _ (subscriptTail _ _ (Value.ref _) (Value.int _ _)) _ _ _); k_dflt (refine' dict_item ?N ?p ?d ?r ?k ?_ ?s ?g; (case N => k_asm); (case p => k_subL); (case d => assumption); (case r => assumption); (case k => assumption); (case s => with_unfolding_all rfl); (case g => (intro _; with_unfolding_all rfl))); intro v' hv'; k_dflt (obtain ⟨t', e'⟩ := hv'; subst e')))
local macro_rules | `(tactic| k_all) => `(tactic| assumption)

local macro_rules | `(tactic| walk_at "MY ndm") => `(tactic| first | exact List.not_mem_nil | (refine notmem_cons ?nda ?ndb; (case nda => k_ne); (case ndb => walk_at "MY ndm")))
local macro_rules | `(tactic| walk_at "MY nd") => `(tactic| first | exact List.nodup_nil | (refine List.nodup_cons.mpr ⟨?ndc, ?ndd⟩; (case ndc => walk_at "MY ndm"); (case ndd => walk_at "MY nd")))

set_option maxRecDepth 100000 in
set_option maxHeartbeats 8000000 in
theorem lwords_spec (F : Fr h₀ L s.heap m) (B : Below A₀ base outer h₀) (X : (hd.heap_39 w.params).In h₀) (T : Top Mine.view (looseW Mine.view []) mean mg mb h₀) (hk : cs.kind = .function)
    (hdp : dp + 4 * 3 < recursionLimit) (hun : un + 30 * 3 < cLine)
    {TI : Addr → Obj → Prop} {W U I : Addr} {x : Wst} {lim prior : Int} {ever : List By} {dk : List Int} {σ : Ust} {wl ul il : List (Addr × Obj)} (hW : Wd w TI W x wl) (hI : Isu w I x.lim x.asked x.mn x.ever il) (hU : Usr w TI U lim prior ever dk σ ul)
    (htw : σ.tr = x.wd) (hmn : x.mn.length ≤ 60) (hwd : x.wd.length ≤ 90) (hev : x.ever.Nodup) (hwm : ∀ k ∈ x.wd, k ∈ x.mn) (hwn : x.wd.Nodup) (hnm : x.now ∈ x.mn) (hnw : x.now ∉ x.wd) (hlo : ∀ k ∈ x.mn, 0 ≤ k) (hhi : ∀ k ∈ x.mn, k < (x.ever.length : Int))
    (hnd : ((ul ++ (wl ++ il)).map (·.1)).Nodup)
    (N : News h₀ L s.heap ((ul ++ (wl ++ il)) ++ rest)) (hoff : Off (ul ++ (wl ++ il)) rest)
    (hQ : ∀ wl' il' ul' h' tk', Wd w TI W { x with mn := dropAll x.mn x.wd, wd := [] } wl' → Isu w I x.lim x.asked (dropAll x.mn x.wd) x.ever il' → Usr w TI U lim prior ever dk { σ with tr := [] } ul' → ((ul' ++ (wl' ++ il')).map (·.1)).Nodup → Off (ul' ++ (wl' ++ il')) rest →
      Fr h₀ L h' m → News h₀ L h' ((ul' ++ (wl' ++ il')) ++ rest) → Q (.bool true) { s with heap := h', toks := tk' }) :
    wpAny (model PG w) (ktrTop dp un gd cn cs L a ccd cl outer) (call (.ref 223) [.ref W, .ref I, .ref U]) Q E s := by
  walk_at "MY fill"
  have hU0 := hU
  have hI0 := hI
  obtain ⟨dU, KN, US, TD, TR, y1, y2, y3, y4, y5, y6, y7, y8, z1, z3, z5, ou2, ou3, ou4, ou5, rfl⟩ := usr_shapeT hU
  clear hU
  obtain ⟨MN, EV, SN, HS, CM, WD, MT, ow, omn, mkv, evs, n1, svs, n2, hv, n3, cv, n4, wv, n5, mv, n6, t1, t2, t3, t4, rfl, how, homn, hmkv, hevs, hsvs, hhv, hcv, hwv, hmv, loW, loM⟩ := hW
  obtain ⟨dI, D1, E1, odi, o1, kvs, ievs, i1, rfl, ⟨q1, q2, q3, q4, q5, q6, v1, v4, v5, rfl⟩, hdi1, hdb, hiev, lo, j1, j2, j3⟩ := hI
  obtain ⟨rk, r0, r1, r2, r3, r4, r5, r6, r7, r8, r9, r10, r11, r12, r13, r14, r15, r16, r17, _⟩ := ranks hnd 0
  clear hnd
  refine call_sub (K := hd.heap_39 w.params) (binds := [(Str.ofString "world", .ref W), (Str.ofString "issuer", .ref I), (Str.ofString "user", .ref U)]) B F X T hk N hoff (by k_is) (by k_is) (by omega) (BindsTo.of_eq rfl) (locs rfl) ?_ rfl rfl rfl (by decide)
  intro g L' h₁ FG hrest hback hlt F' N' B' X' T'
  simp only [List.cons_append, List.nil_append] at N'
  replace hlt := allLt_of hlt
  dsimp only [List.cons_append, List.nil_append, AllLt] at hlt
  clear FG N F B X T hoff
  have hwl := hwv.length
  k_unmd
  k_fold
  walk_at "MY ru2"
  rename News g L' _ _ => N₂
  have N₃ := (news_pick (a := U) N₂ (by k_subL) (news_pick (a := dU) N₂ (by k_subL) (news_pick (a := KN) N₂ (by k_subL) (news_pick (a := US) N₂ (by k_subL) (news_pick (a := TD) N₂ (by k_subL) (news_pick (a := TR) N₂ (by k_subL) (news_pick (a := W) N₂ (by k_subL) (news_pick (a := MN) N₂ (by k_subL) (news_pick (a := EV) N₂ (by k_subL) (news_pick (a := SN) N₂ (by k_subL) (news_pick (a := HS) N₂ (by k_subL) (news_pick (a := CM) N₂ (by k_subL) (news_pick (a := WD) N₂ (by k_subL) (news_pick (a := MT) N₂ (by k_subL) (news_pick (a := I) N₂ (by k_subL) (news_pick (a := dI) N₂ (by k_subL) (news_pick (a := D1) N₂ (by k_subL) (news_pick (a := E1) N₂ (by k_subL) (News.nil)))))))))))))))))))
  refine frames_spec (ul := [_, _, _, _, _, _]) (by k_asm) (by k_asm) (by k_asm) (by k_asm) rfl (by k_room) (by k_units) hU0 (by rw [htw]; omega) N₃ (by walk_at "MY off") ?_
  intro ul' es D k₀ h' tk' hU' hes hof F' N'
  clear N₂ N₃
  have hU1 := hU'
  obtain ⟨dU', KN', US', TD', TR', od', okn', otd', kvs1', kvs2', uvs', u1', tvs', u2', rfl, ⟨y1', y2', y3', y4', y5', y6', y7', y8', z1', z3', z5', rfl⟩, hd1', hr1', hd2', hr2', hu', ht', lo1', lo2', l1', l2', l3', l4', l5'⟩ := hU'
  obtain ⟨es', he⟩ : ∃ es', es' = (D, PySem.W.listOf (refsOf es).toArray k₀) :: es := ⟨_, rfl⟩
  have N₃ := news_end (es' := es') he N'
  clear N'
  simp only [List.cons_append, List.nil_append] at N₃
  walk_at "MY ru2"
  rename Fr g L' _ _ => F₂; rename News g L' _ _ => N₂
  refine srcU_tups (S := Rci) (by rfl) (by k_subL) hwv (by omega) F₂ N₂ ?_ ?_
  · intro k t I' oI' C oC D' m₂ oD es h tk E' hkm hC hx F' N'
    walk_at "MY ru2"
    exact tupEnd (by k_asm) (by k_asm) (by assumption)
  · intro g₂ es₂ hes₂ hlt₂
    intro D₂ h' tk' F' N' off
    clear N₂ F₂
    subst he
    refine ne_list (xs := refsOf es) (ys := refsOf es₂) (n := k₀) (N' (D, _) (.tail _ (List.mem_append_right _ (by simp))) ).1 (N' (D₂, _) (.head _)).1 (by k_units) (tups_alike (by rw [htw] at hes; exact hes) hes₂ (fun p hp => (N' p (.tail _ (List.mem_append_right _ (by simp [hp])))).1) (fun p hp => (N' p (.tail _ (List.mem_append_left _ hp))).1) (by k_units)) ?_
    replace N' := news_tl N'
    have N₂ := news_right N'
    have N₃ := (news_pick (a := I) N₂ (by k_subL) (news_pick (a := dI) N₂ (by k_subL) (news_pick (a := D1) N₂ (by k_subL) (news_pick (a := E1) N₂ (by k_subL) (news_pick (a := MN) N₂ (by k_subL) (news_pick (a := W) N₂ (by k_subL) (news_pick (a := EV) N₂ (by k_subL) (news_pick (a := SN) N₂ (by k_subL) (news_pick (a := HS) N₂ (by k_subL) (news_pick (a := CM) N₂ (by k_subL) (news_pick (a := WD) N₂ (by k_subL) (news_pick (a := MT) N₂ (by k_subL) (news_pick (a := U) N₂ (by k_subL) (news_pick (a := dU') N₂ (by k_subL) (news_pick (a := KN') N₂ (by k_subL) (news_pick (a := US') N₂ (by k_subL) (news_pick (a := TD') N₂ (by k_subL) (news_pick (a := TR') N₂ (by k_subL) (News.nil)))))))))))))))))))
    clear N₂ N'
    walk_at "MY ru2"
    dsimp only
    rename Fr g L' _ _ => F₂; rename News g L' _ _ => N₂
    refine iter_J (ul₀ := [_, _, _, _, _]) (fun i ul => ∃ il' omn' mkv', ul = il' ++ [(MN, omn')] ∧ Isu w I x.lim x.asked (dropAll x.mn (x.wd.take i)) x.ever il' ∧ omn'.IsDictOf (PySem.intKind PG w) mkv' ∧ DictRel (ByR x.ever) mkv' (dropAll x.mn (x.wd.take i))) (by rfl) (l := WD) (nn := n5) (st := [_, _, _, _, _, _, _, _, _, _, _, _, _]) (by k_subL) hwv F₂ N₂ (by walk_at "MY off") ?_ ?_ ?_
    · exact ⟨[_, _, _, _], omn, mkv, rfl, hI0, homn, hmkv⟩
    · intro i n t ul h tk own hn ha hoffT hj F' N'
      obtain ⟨il', omn', mkv', rfl, hI', homn', hmkv'⟩ := hj
      have hI2 := hI'
      obtain ⟨dI', D1', E1', od', o1', kvs', ievs', i1', rfl, ⟨q1', q2', q3', q4', q5', q6', v1', v4', v5', rfl⟩, hd1', hdb', hiev', lo', j1', j2', j3'⟩ := hI'
      obtain ⟨e1, e2, e3⟩ : dI = dI' ∧ D1 = D1' ∧ E1 = E1' := by simpa [eq_comm] using ha
      subst e1 e2 e3
      have hmem : n ∈ dropAll x.mn (x.wd.take i) := by
        obtain ⟨hi1, hi2⟩ := List.getElem?_eq_some_iff.mp hn
        refine mem_dropAll.mpr ⟨hwm n (List.mem_of_getElem? hn), fun hm => ?_⟩
        obtain ⟨j, hj1, hj2⟩ := List.getElem_of_mem hm
        rw [List.getElem_take] at hj2
        have hji : j < i := by have := hj1; rw [List.length_take] at this; omega
        exact absurd (hj2.trans hi2.symm) (List.pairwise_iff_getElem.mp hwn j i (by omega) (by omega) hji)
      have hnmi : x.now ∈ dropAll x.mn (x.wd.take i) := mem_dropAll.mpr ⟨hnm, fun hm => hnw (List.mem_of_mem_take hm)⟩
      have hnn : n ≠ x.now := fun e => hnw (e ▸ List.mem_of_getElem? hn)
      have hstep : dropAll x.mn (x.wd.take (i + 1)) = dropK (dropAll x.mn (x.wd.take i)) n := by
        rw [List.take_add_one, hn]; exact dropAll_snoc _ _ _
      have hlm : (dropAll x.mn (x.wd.take i)).length ≤ 60 := Nat.le_trans (dropAll_len _ _) hmn
      have hown : ∀ p ∈ own, p.1 ≠ MN := fun p hp => hoffT (MN, omn') (by simp) p (List.mem_append_right _ hp)
      simp only [List.cons_append, List.nil_append] at N'
      clear F₂ N₂
      k_unmd
      k_fold
      walk_at "MY ru2"
      rename News g L' _ _ => N₂
      refine onret_spec (il := [_, _, _, _]) (by k_asm) (by k_asm) (by k_asm) (by k_asm) rfl (by k_room) (by k_units) hI2 hlm hev hmem (hlo _ (mem_dropAll.mp hmem).1) (hhi _ (mem_dropAll.mp hmem).1) (hlo _ hnm) (hhi _ hnm) hnn N₂ (off_loop hoffT (by k_all)) ?_
      intro il'' h' tk' hI'' ha'' F' N'
      clear N₂
      have hI3 := hI''
      obtain ⟨dI', D1', E1', od', o1', kvs', ievs', i1', rfl, ⟨q1', q2', q3', q4', q5', q6', v1', v4', v5', rfl⟩, hd1', hdb', hiev', lo', j1', j2', j3'⟩ := hI''
      obtain ⟨e1, e2, e3⟩ : dI = dI' ∧ D1 = D1' ∧ E1 = E1' := by simpa [eq_comm] using ha''
      subst e1 e2 e3
      simp only [List.cons_append, List.nil_append] at N'
      walk_at "MY ru2"
      rename Fr g L' _ _ => F₂; rename News g L' _ _ => N₂
      refine turn_next (ul := [_, _, _, _, _]) F₂ N₂ (fun y hy => if_neg hy) ?_ ?_
      · exact ha
      · exact ⟨[_, _, _, _], _, _, rfl, by rw [hstep]; exact hI3, by assumption, by rw [hstep]; exact hmkv'.del n⟩
    · intro v ul h tk hj ha F' N'
      obtain ⟨il', omn', mkv', rfl, hI', homn', hmkv'⟩ := hj
      rw [List.take_of_length_le (Nat.le_refl _)] at hI' hmkv'
      have hI2 := hI'
      obtain ⟨dI', D1', E1', od', o1', kvs', ievs', i1', rfl, ⟨q1', q2', q3', q4', q5', q6', v1', v4', v5', rfl⟩, hd1', hdb', hiev', lo', j1', j2', j3'⟩ := hI'
      obtain ⟨e1, e2, e3⟩ : dI = dI' ∧ D1 = D1' ∧ E1 = E1' := by simpa [eq_comm] using ha
      subst e1 e2 e3
      simp only [List.cons_append, List.nil_append] at N'
      clear F₂ N₂
      walk_at "MY ru2"
      rename Fr g L' _ _ => F₂; rename News g L' _ _ => N₂
      refine newList_K F₂ N₂ ?_
      intro WD' h' F' N' lW
      replace lW := allLt_of lW
      dsimp only [AllLt] at lW
      clear F₂ N₂
      walk_at "MY ru2"
      dsimp only
      walk_at "MY ru2"
      rename Fr g L' _ _ => F₂; rename News g L' _ _ => N₂
      have N₄ := (news_pick (a := U) N₂ (by k_subL) (news_pick (a := dU') N₂ (by k_subL) (news_pick (a := KN') N₂ (by k_subL) (news_pick (a := US') N₂ (by k_subL) (news_pick (a := TD') N₂ (by k_subL) (news_pick (a := TR') N₂ (by k_subL) (news_pick (a := W) N₂ (by k_subL) (news_pick (a := MN) N₂ (by k_subL) (news_pick (a := EV) N₂ (by k_subL) (news_pick (a := SN) N₂ (by k_subL) (news_pick (a := HS) N₂ (by k_subL) (news_pick (a := CM) N₂ (by k_subL) (news_pick (a := WD') N₂ (by k_subL) (news_pick (a := MT) N₂ (by k_subL) (news_pick (a := I) N₂ (by k_subL) (news_pick (a := dI) N₂ (by k_subL) (news_pick (a := D1) N₂ (by k_subL) (news_pick (a := E1) N₂ (by k_subL) (News.nil)))))))))))))))))))
      have hoffN := off_new N₄ hrest
      refine out_ F₂ N₂ fun F₁ N₁ => ?_
      have N₄ := (news_pick (a := U) N₁ (by k_subL) (news_pick (a := dU') N₁ (by k_subL) (news_pick (a := KN') N₁ (by k_subL) (news_pick (a := US') N₁ (by k_subL) (news_pick (a := TD') N₁ (by k_subL) (news_pick (a := TR') N₁ (by k_subL) (news_pick (a := W) N₁ (by k_subL) (news_pick (a := MN) N₁ (by k_subL) (news_pick (a := EV) N₁ (by k_subL) (news_pick (a := SN) N₁ (by k_subL) (news_pick (a := HS) N₁ (by k_subL) (news_pick (a := CM) N₁ (by k_subL) (news_pick (a := WD') N₁ (by k_subL) (news_pick (a := MT) N₁ (by k_subL) (news_pick (a := I) N₁ (by k_subL) (news_pick (a := dI) N₁ (by k_subL) (news_pick (a := D1) N₁ (by k_subL) (news_pick (a := E1) N₁ (by k_subL) (News.nil)))))))))))))))))))
      have N₅ := news_app N₄ (hback _ _ F₂)
      refine hQ [_, _, _, _, _, _, _, _] [_, _, _, _] [_, _, _, _, _, _] _ _ ?_ hI2 hU1 ?_ hoffN F₁ N₅
      · refine ⟨MN, EV, SN, HS, CM, _, MT, _, _, _, _, _, _, _, _, _, _, _, _, _, _, _, _, _, _, _, rfl, by assumption, by assumption, hmkv', hevs, hsvs, hhv, hcv, .nil, hmv, loW, loM⟩
      · show List.Nodup [U, dU', KN', US', TD', TR', W, MN, EV, SN, HS, CM, WD', MT, I, dI, D1, E1]
        clear hoffN N₄ N₅
        walk_at "MY nd"
end
-- text LCome
section
variable {w : World} {mean : ExcName → Option Value} {mg mb : Str → Option Value}
  {dp un : Nat} {gd : Option (List Code)} {cn : Str} {cs : Scope} {a : Addr} {ccd : Value} {cl : List (Str × Addr)} {outer : List Env} {A₀ : Around}
  {base h₀ : Heap} {L : Addr} {m : Str → Option Value} {s : Shared} {Q E : Value → Shared → Prop} {rest : List (Addr × Obj)}
local macro_rules | `(tactic| walk_at "MY ru2") => `(tactic| (repeat' (walk_at "MY sc"; walk_at "MY sq"; (fail_if_success (with_reducible show wpAny _ _ (assign (Expr.Tuple _ _ _) _ (Value.ref _)) _ _ _)); (fail_if_success (with_reducible show wpAny _ _ (call (Value.builtin "list.remove") _) _ _ _)); walk_at "MY sl"; (fail_if_success (with_reducible show wpAny _ _ (binaryOp _ (Value.ref _) (Value.ref _)) _ _ _)); walk_at "MY si"; walk_at "MY st")))
local macro_rules | `(tactic| walk_at "MY ru3") => `(tactic| (repeat' ((fail_if_success (with_reducible show wpAny _ _ (setItem _ _ _) _ _ _)); walk_at "MY sl"; walk_at "MY si"; walk_at "MY st")))

local macro_rules | `(tactic| walk_at "MY ndm") => `(tactic| first | exact List.not_mem_nil | (refine notmem_cons ?nda ?ndb; (case nda => k_ne); (case ndb => walk_at "MY ndm")))
local macro_rules | `(tactic| walk_at "MY nd") => `(tactic| first | exact List.nodup_nil | (refine List.nodup_cons.mpr ⟨?ndc, ?ndd⟩; (case ndc => walk_at "MY ndm"); (case ndd => walk_at "MY nd")))


set_option maxRecDepth 100000 in
set_option maxHeartbeats 8000000 in
theorem lcome_spec (F : Fr h₀ L s.heap m) (B : Below A₀ base outer h₀) (X : (hd.heap_39 w.params).In h₀) (T : Top Mine.view (looseW Mine.view []) mean mg mb h₀) (hk : cs.kind = .function)
    (hdp : dp + 4 * 5 < recursionLimit) (hun : un + 30 * 5 < cLine)
    {TI : Addr → Obj → Prop} {P W U : Addr} {c lim : Int} {x : Wst} {dk : List Int} {σ : Ust} {pl wl ul : List (Addr × Obj)} (hP : Pen P c pl) (hW : Wd w TI W x wl) (hU : Usr w TI U lim x.prior x.ever dk σ ul)
    (hTI : ∀ a o, TI a o → Stat h₀ rest a o) (hc0 : 0 ≤ c) (hc1 : c ≤ 58)
    (hev : x.ever.Nodup) (hdk0 : ∀ k ∈ dk, 0 ≤ k) (hdk1 : ∀ k ∈ dk, k < (x.ever.length : Int)) (hfs : x.fs.length + 1 = x.ever.length) (hfl : x.fs.length ≤ 60) (hf0 : 0 < x.fs.length)
    (hus : σ.us.length ≤ 80) (htr : σ.tr.length ≤ 80) (hkk : σ.kk.length ≤ 10) (hknd : σ.kk.Nodup) (hdl : dk.length ≤ 80) (hsub : ∀ k ∈ σ.kk, k ∈ dk)
    (hcd : ∀ n, 0 < n → (n ∈ x.cm ↔ n ∈ dk)) (hhk : ∀ n, n ∈ x.hs ↔ n ∈ σ.kk) (hhl : x.hs.length ≤ 60) (hcl : x.cm.length ≤ 100) (hwl : x.wd.length ≤ 200) (hml : x.mt.length ≤ 200) (hnow : x.now ∈ x.hs) (hpr : ∀ k ∈ x.hs, x.prior ≤ k)
    (hff : ∀ (i : Nat) f, x.fs[i]? = some f → f ≤ (i : Int) + 1)
    (hlim : ∀ (i : Nat) f p, x.fs[i]? = some f → (p = f ∨ p = min x.asked ((i : Int) + 1)) → ((i : Int) + 1) ∉ dk → ¬ ((i : Int) + 1) < x.prior → ((retAll (max x.prior p) { σ with kk := σ.kk ++ [(i : Int) + 1] }).kk.length : Int) ≤ lim)
    (hnd : ((pl ++ (wl ++ ul)).map (·.1)).Nodup)
    (N : News h₀ L s.heap ((pl ++ (wl ++ ul)) ++ rest)) (hoff : Off (pl ++ (wl ++ ul)) rest)
    (hQ : ∀ (i : Nat) f p x' σ' dk' ul' wl' pl' ext h' tk', x.fs[i]? = some f → (p = f ∨ p = min x.asked ((i : Int) + 1)) → Come x σ dk ((i : Int) + 1) p x' σ' dk' → Wd w (TIx TI ext) W x' wl' → Usr w (TIx TI ext) U lim x'.prior x'.ever dk' σ' ul' → Pen P (c + 1 + 1) pl' →
      ((pl' ++ (wl' ++ ul')).map (·.1)).Nodup → (∀ a ∈ ext, ∀ q ∈ (pl ++ (wl ++ ul)) ++ rest, @LT.lt Nat _ q.1 a.1) → Off (pl' ++ (wl' ++ ul')) (ext ++ rest) → Fr h₀ L h' m → News h₀ L h' ((pl' ++ (wl' ++ ul')) ++ (ext ++ rest)) → Q .none { s with heap := h', toks := tk' }) :
    wpAny (model PG w) (ktrTop dp un gd cn cs L a ccd cl outer) (call (.ref 213) [.ref P, .ref W, .ref U]) Q E s := by
  walk_at "MY fill"
  have hU0 := hU
  have hP0 := hP
  have hW0 := hW
  obtain ⟨S, op0, op1, rfl⟩ := pen_shape hP
  clear hP
  obtain ⟨dU, KN, US, TD, TR, y1, y2, y3, y4, y5, y6, y7, y8, z1, z3, z5, ou2, ou3, ou4, ou5, rfl⟩ := usr_shapeT hU
  clear hU
  obtain ⟨MN, EV, SN, HS, CM, WD, MT, ow, omn, mkv, evs, n1, svs, n2, hv, n3, cv, n4, wv, n5, mv, n6, t1, t2, t3, t4, rfl, how, homn, hmkv, hevs, hsvs, hhv, hcv, hwv, hmv, loW, loM⟩ := hW
  obtain ⟨rk, r0, r1, r2, r3, r4, r5, r6, r7, r8, r9, r10, r11, r12, r13, r14, r15, _⟩ := ranks hnd 0
  have hnd0 := hnd
  clear hnd
  refine call_subC (K := hd.heap_39 w.params) (binds := [(Str.ofString "pen", .ref P), (Str.ofString "world", .ref W), (Str.ofString "user", .ref U)]) B F X T hk N hoff (by k_is) (by k_is) (by omega) (BindsTo.of_eq rfl) (by rfl) (by decide +kernel) ?_ rfl rfl rfl
  intro g L' h₁ tk cells FG hrest hback hlt F' N' Y' B' X' T'
  k_cells Y'
  simp only [List.cons_append, List.nil_append] at N'
  have hTIg : ∀ a o, TI a o → Stat g [] a o := fun a o h => .inl ((hTI a o h).elim (fun e => FG.keep _ _ e) fun e => hrest _ e)
  have hTIh : ∀ a o, TI a o → g.get? a = some o := fun a o h => (hTI a o h).elim (fun e => FG.keep _ _ e) fun e => hrest _ e
  have hltA := natLt hlt
  replace hlt := allLt_of hlt
  dsimp only [List.cons_append, List.nil_append, AllLt] at hlt
  clear FG N F B X T hoff hTI
  have hvl := hhv.length
  have hcl2 := hcv.length
  have hwl2 := hwv.length
  have hml2 := hmv.length
  have hsvl := hsvs.1
  have zz1 : hv.length ≤ 1000 := by omega
  have zz2 : cv.length ≤ 1000 := by omega
  have zz3 : wv.length ≤ 1000 := by omega
  have zz4 : mv.length ≤ 1000 := by omega
  have zz5 : svs.length ≤ 1000 := by omega
  k_unmd
  k_fold
  walk_at "MY ru2"
  rename News g L' _ _ => N₂
  have N₃ := (news_pick (a := P) N₂ (by k_subL) (news_pick (a := S) N₂ (by k_subL) (news_pick (a := W) N₂ (by k_subL) (news_pick (a := MN) N₂ (by k_subL) (news_pick (a := EV) N₂ (by k_subL) (news_pick (a := SN) N₂ (by k_subL) (news_pick (a := HS) N₂ (by k_subL) (news_pick (a := CM) N₂ (by k_subL) (news_pick (a := WD) N₂ (by k_subL) (news_pick (a := MT) N₂ (by k_subL) (news_pick (a := U) N₂ (by k_subL) (news_pick (a := dU) N₂ (by k_subL) (news_pick (a := KN) N₂ (by k_subL) (news_pick (a := US) N₂ (by k_subL) (news_pick (a := TD) N₂ (by k_subL) (news_pick (a := TR) N₂ (by k_subL) (news_pick (a := L' + 1) N₂ (by k_subL) (News.nil))))))))))))))))))
  refine pick_spec (pl := [_, _]) (by k_asm) (by k_asm) (by k_asm) (by k_asm) rfl (by k_room) (by k_units) hP0 hc0 (by omega) (by omega) N₃ (by walk_at "MY off") ?_
  intro i ti pl' h' tk' hi0 hi1 hP' ha' F' N'
  have hP1 := hP'
  obtain ⟨op0', op1', rfl⟩ := map_2 ha'
  clear hP' ha'
  simp only [List.cons_append, List.nil_append] at N'
  clear N₂ N₃ hP0
  walk_at "MY ru2"
  rename Fr g L' _ _ => F₂; rename News g L' _ _ => N₂
  obtain ⟨j, rfl⟩ : ∃ j : Nat, i = (j : Int) := ⟨i.toNat, by omega⟩
  have hjl : j < svs.length := by omega
  obtain ⟨a9, tn, tf, tc, tv, f, hsj, hfj, hti, htok⟩ := hsvs.2 j svs[j] (List.getElem?_eq_getElem hjl)
  rw [show ((j + 1 : Nat) : Int) = (j : Int) + 1 from rfl] at hti htok
  refine item_listL (x := .ref a9) ⟨_, (N₂ (SN, _) (by k_subL)).1, rfl, _, rfl⟩ hi0 (by omega) (by rw [Int.toNat_natCast, List.getElem?_eq_getElem hjl, hsj]) ?_ (by with_unfolding_all rfl) (by intro _; with_unfolding_all rfl)
  walk_at "MY ru2"
  refine unpackN_ F₂ N₂ ⟨_, ti_at F₂ hTIh hti, rfl, _, rfl⟩ (by rfl) (by rfl) (by rfl) ?_
  intro h' F' N'
  clear F₂ N₂
  walk_at "MY ru2"
  rename Fr g L' _ _ => F₂; rename News g L' _ _ => N₂
  obtain ⟨q2, hq2⟩ : ∃ q2, q2 = (if (j : Int) + 1 < x.asked then (j : Int) + 1 else x.asked) := ⟨_, rfl⟩
  obtain ⟨tq, htq⟩ : ∃ tq, tq = (if (j : Int) + 1 < x.asked then tn else t2) := ⟨_, rfl⟩
  rw [← hq2, ← htq]
  have hq3 : q2 = min x.asked ((j : Int) + 1) := by rw [hq2]; split <;> omega
  clear hq2 htq
  refine newList_K F₂ N₂ ?_
  intro PR h' F' N' lPR
  replace lPR := allLt_of lPR
  dsimp only [AllLt] at lPR
  clear F₂ N₂
  walk_at "MY ru2"
  rename News g L' _ _ => N₂
  have N₃ := (news_pick (a := P) N₂ (by k_subL) (news_pick (a := S) N₂ (by k_subL) (news_pick (a := W) N₂ (by k_subL) (news_pick (a := MN) N₂ (by k_subL) (news_pick (a := EV) N₂ (by k_subL) (news_pick (a := SN) N₂ (by k_subL) (news_pick (a := HS) N₂ (by k_subL) (news_pick (a := CM) N₂ (by k_subL) (news_pick (a := WD) N₂ (by k_subL) (news_pick (a := MT) N₂ (by k_subL) (news_pick (a := U) N₂ (by k_subL) (news_pick (a := dU) N₂ (by k_subL) (news_pick (a := KN) N₂ (by k_subL) (news_pick (a := US) N₂ (by k_subL) (news_pick (a := TD) N₂ (by k_subL) (news_pick (a := TR) N₂ (by k_subL) (news_pick (a := L' + 1) N₂ (by k_subL) (news_pick (a := PR) N₂ (by k_subL) (News.nil)))))))))))))))))))
  refine pick_spec (pl := [_, _]) (by k_asm) (by k_asm) (by k_asm) (by k_asm) rfl (by k_room) (by k_units) hP1 (by omega) (by omega) (by omega) N₃ (by walk_at "MY off") ?_
  intro i ti pl' h' tk' hj0 hj1 hP' ha' F' N'
  have hP2 := hP'
  obtain ⟨op0', op1', rfl⟩ := map_2 ha'
  clear hP' ha'
  simp only [List.cons_append, List.nil_append] at N'
  clear N₂ N₃ hP1
  obtain ⟨p, hpe⟩ : ∃ p, p = [f, q2].getD i.toNat 0 := ⟨_, rfl⟩
  have hp : p = f ∨ p = q2 := by
    rcases (by omega : i = 0 ∨ i = 1) with rfl | rfl
    · exact .inl hpe
    · exact .inr hpe
  have hpn : p ≤ (j : Int) + 1 := by
    have := hff j f hfj
    rcases hp with rfl | rfl <;> omega
  walk_at "MY ru2"
  rename Fr g L' _ _ => F₂
  rw [← hpe] at F₂ ⊢
  have hj2 : (j : Int) + 1 < (x.ever.length : Int) := by omega
  rename News g L' _ _ => N₂
  have N₃ := (news_pick (a := U) N₂ (by k_subL) (news_pick (a := dU) N₂ (by k_subL) (news_pick (a := KN) N₂ (by k_subL) (news_pick (a := US) N₂ (by k_subL) (news_pick (a := TD) N₂ (by k_subL) (news_pick (a := TR) N₂ (by k_subL) (news_pick (a := P) N₂ (by k_subL) (news_pick (a := S) N₂ (by k_subL) (news_pick (a := W) N₂ (by k_subL) (news_pick (a := MN) N₂ (by k_subL) (news_pick (a := EV) N₂ (by k_subL) (news_pick (a := SN) N₂ (by k_subL) (news_pick (a := HS) N₂ (by k_subL) (news_pick (a := CM) N₂ (by k_subL) (news_pick (a := WD) N₂ (by k_subL) (news_pick (a := MT) N₂ (by k_subL) (news_pick (a := L' + 1) N₂ (by k_subL) (News.nil))))))))))))))))))
  refine onnew_spec (ul := [_, _, _, _, _, _]) (by k_asm) (by k_asm) (by k_asm) (by k_asm) rfl (by k_room) (by k_units) hU0 (fun a o h => .inl (hTIh a o h)) hev hdk0 hdk1 (by omega) hj2 htok hus htr hkk hknd hdl hsub
    (hlim j f p hfj (by rw [← hq3]; exact hp)) N₃ (by walk_at "MY off") ?_ ?_ ?_ ?_
  · intro hin hik ul' h' tk' hU' ha' F' N'
    have hcm := (hcd _ (by omega)).mpr hin
    have hnh : (j : Int) + 1 ∈ x.hs := (hhk _).mpr hik
    have hcmT : ¬ ((!decide ((j : Int) + 1 ∈ x.cm)) = true) := by simp [hcm]
    have hnhT : decide ((j : Int) + 1 ∈ x.hs) = true := decide_eq_true hnh
    have hpr9 := hpr _ hnh
    have hU1 := hU'
    obtain ⟨o0', o1', o2', o3', o4', o5', rfl⟩ := map_6 ha'
    clear hU' ha'
    simp only [List.cons_append, List.nil_append] at N'
    clear N₂ N₃
    have hmax : (if p > x.prior then p else x.prior) = max x.prior p := by split <;> omega
    walk_at "MY ru3"
    all_goals (try (exfalso; exact absurd hcm (by assumption)))
    all_goals (try (exfalso; exact absurd hnh (by assumption)))
    rw [hmax]
    walk_at "MY ru2"
    have hsl9 := srt_len (x.hs)
    rename Fr g L' _ _ => F₂; rename News g L' _ _ => N₂; rename IntsAre _ (srt _) => hi
    refine src_list (by rfl) F₂ N₂ ⟨_, (N₂ _ (List.Mem.head _)).1, rfl, _, rfl⟩ hi (by omega) (fun k => decide (k < max x.prior p)) (by rfl) (by with_unfolding_all rfl) (by decide) ?_ ?_
    · intro C k t s₃ m₃ E' hkm F' N' hC hx
      walk_at "MY ru2"
      exact testEnd rfl
    · intro D₁ h' tk' vs₁ n₁ F' N' hD hI₁
      have neD₁_0 : NeA D₁ W := Ne.symm (hD (W, _) (by k_subL))
      have neD₁_1 : NeA D₁ MT := Ne.symm (hD (MT, _) (by k_subL))
      have neD₁_2 : NeA D₁ CM := Ne.symm (hD (CM, _) (by k_subL))
      have neD₁_3 : NeA D₁ HS := Ne.symm (hD (HS, _) (by k_subL))
      have neD₁_4 : NeA D₁ WD := Ne.symm (hD (WD, _) (by k_subL))
      have hll := hI₁.length
      have hle := List.length_filter_le (fun k => decide (k < max x.prior p)) (srt (x.hs))
      clear hD N₂ F₂
      walk_at "MY ru2"
      rename Fr g L' _ _ => F₂; rename News g L' _ _ => N₂
      refine list_add F₂ N₂ (l := WD) (b := D₁) (vs := wv) (ws := vs₁) (n := n5) (k := n₁) (by k_subL) (by k_subL) hwv hI₁ (by omega) ?_
      intro WD' h' F' N' lW hI₃
      replace lW := allLt_of lW
      dsimp only [AllLt] at lW
      clear F₂ N₂
      walk_at "MY ru2"
      clear hi
      rename Fr g L' _ _ => F₂; rename News g L' _ _ => N₂; rename IntsAre _ (srt _) => hi
      refine src_list (by rfl) F₂ N₂ ⟨_, (N₂ _ (List.Mem.head _)).1, rfl, _, rfl⟩ hi (by omega) (fun k => decide (max x.prior p ≤ k)) (by rfl) (by with_unfolding_all rfl) (by decide) ?_ ?_
      · intro C k t s₃ m₃ E' hkm F' N' hC hx
        walk_at "MY ru2"
        exact testEnd rfl
      · intro D₂ h' tk' vs₂ n₂ F' N' hD hI₂
        have neD₂_0 : NeA D₂ U := Ne.symm (hD (U, _) (by k_subL))
        have neD₂_1 : NeA D₂ dU := Ne.symm (hD (dU, _) (by k_subL))
        have neD₂_2 : NeA D₂ KN := Ne.symm (hD (KN, _) (by k_subL))
        have neD₂_3 : NeA D₂ US := Ne.symm (hD (US, _) (by k_subL))
        have neD₂_4 : NeA D₂ TD := Ne.symm (hD (TD, _) (by k_subL))
        have neD₂_5 : NeA D₂ TR := Ne.symm (hD (TR, _) (by k_subL))
        have neD₂_6 : NeA D₂ P := Ne.symm (hD (P, _) (by k_subL))
        have neD₂_7 : NeA D₂ S := Ne.symm (hD (S, _) (by k_subL))
        have neD₂_8 : NeA D₂ W := Ne.symm (hD (W, _) (by k_subL))
        have neD₂_9 : NeA D₂ MN := Ne.symm (hD (MN, _) (by k_subL))
        have neD₂_10 : NeA D₂ EV := Ne.symm (hD (EV, _) (by k_subL))
        have neD₂_11 : NeA D₂ SN := Ne.symm (hD (SN, _) (by k_subL))
        have neD₂_12 : NeA D₂ CM := Ne.symm (hD (CM, _) (by k_subL))
        have neD₂_13 : NeA D₂ WD' := Ne.symm (hD (WD', _) (by k_subL))
        have neD₂_14 : NeA D₂ MT := Ne.symm (hD (MT, _) (by k_subL))
        have hnd2 : List.Nodup [P, S, W, MN, EV, SN, D₂, CM, WD', MT, U, dU, KN, US, TD, TR] := by
          clear hD N₂ F₂
          walk_at "MY nd"
        clear hD N₂ F₂
        have hin2 : (j : Int) + 1 ∈ (srt (x.hs)).filter fun k => decide (max x.prior p ≤ k) := List.mem_filter.mpr ⟨srt_mem.mpr hnh, by simp; omega⟩
        generalize hl2 : ((srt (x.hs)).filter fun k => decide (max x.prior p ≤ k)) = hs₂ at hI₂ hin2
        cases hI₂ with
        | nil => exact nomatch hin2
        | cons k t hI₂ =>
          rename_i vs₄ r
          have hI₄ := IntsAre.cons k t hI₂
          walk_at "MY ru2"
          · rename Fr g L' _ _ => F₂; rename News g L' _ _ => N₂
            have N₄ := (news_pick (a := P) N₂ (by k_subL) (news_pick (a := S) N₂ (by k_subL) (news_pick (a := W) N₂ (by k_subL) (news_pick (a := MN) N₂ (by k_subL) (news_pick (a := EV) N₂ (by k_subL) (news_pick (a := SN) N₂ (by k_subL) (news_pick (a := D₂) N₂ (by k_subL) (news_pick (a := CM) N₂ (by k_subL) (news_pick (a := WD') N₂ (by k_subL) (news_pick (a := MT) N₂ (by k_subL) (news_pick (a := U) N₂ (by k_subL) (news_pick (a := dU) N₂ (by k_subL) (news_pick (a := KN) N₂ (by k_subL) (news_pick (a := US) N₂ (by k_subL) (news_pick (a := TD) N₂ (by k_subL) (news_pick (a := TR) N₂ (by k_subL) (News.nil)))))))))))))))))
            have hoffN := off_new N₄ hrest
            refine out_ F₂ N₂ fun F₁ N₁ => ?_
            have N₅ := news_app (news_pick (a := P) N₁ (by k_subL) (news_pick (a := S) N₁ (by k_subL) (news_pick (a := W) N₁ (by k_subL) (news_pick (a := MN) N₁ (by k_subL) (news_pick (a := EV) N₁ (by k_subL) (news_pick (a := SN) N₁ (by k_subL) (news_pick (a := D₂) N₁ (by k_subL) (news_pick (a := CM) N₁ (by k_subL) (news_pick (a := WD') N₁ (by k_subL) (news_pick (a := MT) N₁ (by k_subL) (news_pick (a := U) N₁ (by k_subL) (news_pick (a := dU) N₁ (by k_subL) (news_pick (a := KN) N₁ (by k_subL) (news_pick (a := US) N₁ (by k_subL) (news_pick (a := TD) N₁ (by k_subL) (news_pick (a := TR) N₁ (by k_subL) (News.nil))))))))))))))))) (hback _ _ F₂)
            refine hQ j f p _ _ _ [_, _, _, _, _, _] [_, _, _, _, _, _, _, _] [_, _] [] _ _ hfj (by rw [← hq3]; exact hp) (.again hin hik) ?_ (by rw [tailW_prior, tailW_ever]; exact usr_mono (fun _ _ => .inl) hU1) hP2 ?_ ?_ hoffN F₁ N₅
            · first
                | (rw [tailW_in (y := x) hl2 (by assumption)]
                   exact ⟨MN, EV, SN, _, CM, WD', MT, _, _, _, _, _, _, _, _, _, _, _, _, _, _, _, _, _, _, _, rfl, by assumption, homn, hmkv, hevs, sent_mono (fun _ _ => .inl) hsvs, hI₄, hcv, hI₃, hmv, loW, loM⟩)
                | (rw [tailW_out (y := x) hl2 (by assumption)]
                   exact ⟨MN, EV, SN, _, CM, WD', MT, _, _, _, _, _, _, _, _, _, _, _, _, _, _, _, _, _, _, _, rfl, by assumption, homn, hmkv, hevs, sent_mono (fun _ _ => .inl) hsvs, hI₄, hcv, hI₃, hmv.append (.cons _ _ .nil), loW, loM⟩)
            · exact hnd2
            · exact fun a ha => nomatch ha
          · rename Fr g L' _ _ => F₂; rename News g L' _ _ => N₂
            have N₄ := (news_pick (a := P) N₂ (by k_subL) (news_pick (a := S) N₂ (by k_subL) (news_pick (a := W) N₂ (by k_subL) (news_pick (a := MN) N₂ (by k_subL) (news_pick (a := EV) N₂ (by k_subL) (news_pick (a := SN) N₂ (by k_subL) (news_pick (a := D₂) N₂ (by k_subL) (news_pick (a := CM) N₂ (by k_subL) (news_pick (a := WD') N₂ (by k_subL) (news_pick (a := MT) N₂ (by k_subL) (news_pick (a := U) N₂ (by k_subL) (news_pick (a := dU) N₂ (by k_subL) (news_pick (a := KN) N₂ (by k_subL) (news_pick (a := US) N₂ (by k_subL) (news_pick (a := TD) N₂ (by k_subL) (news_pick (a := TR) N₂ (by k_subL) (News.nil)))))))))))))))))
            have hoffN := off_new N₄ hrest
            refine out_ F₂ N₂ fun F₁ N₁ => ?_
            have N₅ := news_app (news_pick (a := P) N₁ (by k_subL) (news_pick (a := S) N₁ (by k_subL) (news_pick (a := W) N₁ (by k_subL) (news_pick (a := MN) N₁ (by k_subL) (news_pick (a := EV) N₁ (by k_subL) (news_pick (a := SN) N₁ (by k_subL) (news_pick (a := D₂) N₁ (by k_subL) (news_pick (a := CM) N₁ (by k_subL) (news_pick (a := WD') N₁ (by k_subL) (news_pick (a := MT) N₁ (by k_subL) (news_pick (a := U) N₁ (by k_subL) (news_pick (a := dU) N₁ (by k_subL) (news_pick (a := KN) N₁ (by k_subL) (news_pick (a := US) N₁ (by k_subL) (news_pick (a := TD) N₁ (by k_subL) (news_pick (a := TR) N₁ (by k_subL) (News.nil))))))))))))))))) (hback _ _ F₂)
            refine hQ j f p _ _ _ [_, _, _, _, _, _] [_, _, _, _, _, _, _, _] [_, _] [] _ _ hfj (by rw [← hq3]; exact hp) (.again hin hik) ?_ (by rw [tailW_prior, tailW_ever]; exact usr_mono (fun _ _ => .inl) hU1) hP2 ?_ ?_ hoffN F₁ N₅
            · first
                | (rw [tailW_in (y := x) hl2 (by assumption)]
                   exact ⟨MN, EV, SN, _, CM, WD', MT, _, _, _, _, _, _, _, _, _, _, _, _, _, _, _, _, _, _, _, rfl, by assumption, homn, hmkv, hevs, sent_mono (fun _ _ => .inl) hsvs, hI₄, hcv, hI₃, hmv, loW, loM⟩)
                | (rw [tailW_out (y := x) hl2 (by assumption)]
                   exact ⟨MN, EV, SN, _, CM, WD', MT, _, _, _, _, _, _, _, _, _, _, _, _, _, _, _, _, _, _, _, rfl, by assumption, homn, hmkv, hevs, sent_mono (fun _ _ => .inl) hsvs, hI₄, hcv, hI₃, hmv.append (.cons _ _ .nil), loW, loM⟩)
            · exact hnd2
            · exact fun a ha => nomatch ha
  · intro hin hnk h' tk' F' N'
    have hcm := (hcd _ (by omega)).mpr hin
    have hnh : ¬ ((j : Int) + 1 ∈ x.hs) := fun h => hnk ((hhk _).mp h)
    have hcmT : ¬ ((!decide ((j : Int) + 1 ∈ x.cm)) = true) := by simp [hcm]
    have hnhT : decide ((j : Int) + 1 ∈ x.hs) = false := decide_eq_false hnh
    have hnowT : ¬ ((!decide (x.now ∈ x.hs)) = true) := by simp [hnow]
    simp only [List.cons_append, List.nil_append] at N'
    clear N₂ N₃
    walk_at "MY ru3"
    all_goals (try (exfalso; exact absurd hcm (by assumption)))
    all_goals (try (exfalso; exact absurd hnow (by assumption)))
    rename Fr g L' _ _ => F₂; rename News g L' _ _ => N₂
    have N₄ := (news_pick (a := P) N₂ (by k_subL) (news_pick (a := S) N₂ (by k_subL) (news_pick (a := W) N₂ (by k_subL) (news_pick (a := MN) N₂ (by k_subL) (news_pick (a := EV) N₂ (by k_subL) (news_pick (a := SN) N₂ (by k_subL) (news_pick (a := HS) N₂ (by k_subL) (news_pick (a := CM) N₂ (by k_subL) (news_pick (a := WD) N₂ (by k_subL) (news_pick (a := MT) N₂ (by k_subL) (news_pick (a := U) N₂ (by k_subL) (news_pick (a := dU) N₂ (by k_subL) (news_pick (a := KN) N₂ (by k_subL) (news_pick (a := US) N₂ (by k_subL) (news_pick (a := TD) N₂ (by k_subL) (news_pick (a := TR) N₂ (by k_subL) (News.nil)))))))))))))))))
    have hoffN := off_new N₄ hrest
    refine out_ F₂ N₂ fun F₁ N₁ => ?_
    have N₅ := news_app (news_pick (a := P) N₁ (by k_subL) (news_pick (a := S) N₁ (by k_subL) (news_pick (a := W) N₁ (by k_subL) (news_pick (a := MN) N₁ (by k_subL) (news_pick (a := EV) N₁ (by k_subL) (news_pick (a := SN) N₁ (by k_subL) (news_pick (a := HS) N₁ (by k_subL) (news_pick (a := CM) N₁ (by k_subL) (news_pick (a := WD) N₁ (by k_subL) (news_pick (a := MT) N₁ (by k_subL) (news_pick (a := U) N₁ (by k_subL) (news_pick (a := dU) N₁ (by k_subL) (news_pick (a := KN) N₁ (by k_subL) (news_pick (a := US) N₁ (by k_subL) (news_pick (a := TD) N₁ (by k_subL) (news_pick (a := TR) N₁ (by k_subL) (News.nil))))))))))))))))) (hback _ _ F₂)
    exact hQ j f p _ _ _ [_, _, _, _, _, _] [_, _, _, _, _, _, _, _] [_, _] [] _ _ hfj (by rw [← hq3]; exact hp) (.gone hin hnk) (wd_mono (fun _ _ => .inl) hW0) (usr_mono (fun _ _ => .inl) hU0) hP2 hnd0 (fun a ha => nomatch ha) hoffN F₁ N₅
  · intro hin hlt2 ul' e₁ h' tk' hU' ha' hfr F' N'
    have hcm : ¬ ((j : Int) + 1 ∈ x.cm) := fun h => hin ((hcd _ (by omega)).mp h)
    have hcmT : (!decide ((j : Int) + 1 ∈ x.cm)) = true := by simp [hcm]
    have hltT : decide ((j : Int) + 1 < x.prior) = true := decide_eq_true hlt2
    have hU1 := hU'
    obtain ⟨o0', o1', o2', o3', o4', o5', rfl⟩ := map_6 ha'
    clear hU' ha'
    obtain ⟨ea, eo⟩ := e₁
    simp only [List.cons_append, List.nil_append] at N'
    simp only [List.cons_append, List.nil_append, List.forall_mem_cons, List.not_mem_nil, false_implies, implies_true, and_true] at hfr
    have lea := allLt_of fun p hp => Nat.lt_trans (hltA p hp) (show @LT.lt Nat _ L' ea by omega)
    dsimp only [List.cons_append, List.nil_append, AllLt] at lea
    clear N₂ N₃
    walk_at "MY ru3"
    all_goals (try (exfalso; exact absurd (by assumption) hcm))
    all_goals (try (exfalso; exact absurd hlt2 (by assumption)))
    dsimp only
    walk_at "MY ru3"
    rename Fr g L' _ _ => F₂; rename News g L' _ _ => N₂
    have N₄ := (news_pick (a := P) N₂ (by k_subL) (news_pick (a := S) N₂ (by k_subL) (news_pick (a := W) N₂ (by k_subL) (news_pick (a := MN) N₂ (by k_subL) (news_pick (a := EV) N₂ (by k_subL) (news_pick (a := SN) N₂ (by k_subL) (news_pick (a := HS) N₂ (by k_subL) (news_pick (a := CM) N₂ (by k_subL) (news_pick (a := WD) N₂ (by k_subL) (news_pick (a := MT) N₂ (by k_subL) (news_pick (a := U) N₂ (by k_subL) (news_pick (a := dU) N₂ (by k_subL) (news_pick (a := KN) N₂ (by k_subL) (news_pick (a := US) N₂ (by k_subL) (news_pick (a := TD) N₂ (by k_subL) (news_pick (a := TR) N₂ (by k_subL) (News.nil)))))))))))))))))
    have hoffN := off_app (r := [(ea, eo)]) (by walk_at "MY off") (off_new N₄ hrest)
    refine out_ F₂ N₂ fun F₁ N₁ => ?_
    have N₅ := news_app (news_pick (a := P) N₁ (by k_subL) (news_pick (a := S) N₁ (by k_subL) (news_pick (a := W) N₁ (by k_subL) (news_pick (a := MN) N₁ (by k_subL) (news_pick (a := EV) N₁ (by k_subL) (news_pick (a := SN) N₁ (by k_subL) (news_pick (a := HS) N₁ (by k_subL) (news_pick (a := CM) N₁ (by k_subL) (news_pick (a := WD) N₁ (by k_subL) (news_pick (a := MT) N₁ (by k_subL) (news_pick (a := U) N₁ (by k_subL) (news_pick (a := dU) N₁ (by k_subL) (news_pick (a := KN) N₁ (by k_subL) (news_pick (a := US) N₁ (by k_subL) (news_pick (a := TD) N₁ (by k_subL) (news_pick (a := TR) N₁ (by k_subL) (news_pick (a := ea) N₁ (by k_subL) (News.nil)))))))))))))))))) (hback _ _ F₂)
    refine hQ j f p _ _ _ [_, _, _, _, _, _] [_, _, _, _, _, _, _, _] [_, _] [(ea, eo)] _ _ hfj (by rw [← hq3]; exact hp) (.late hin hlt2) ?_ hU1 hP2 ?_ (fun a ha q hq => ?_) hoffN F₁ N₅
    · exact ⟨MN, EV, SN, HS, CM, WD, MT, _, _, _, _, _, _, _, _, _, _, _, _, _, _, _, _, _, _, _, rfl, how, homn, hmkv, hevs, sent_mono (fun _ _ => .inl) hsvs, hhv, hcv.append (.cons _ _ .nil), hwv.append (.cons _ _ .nil), hmv, loW, loM⟩
    · exact hnd0
    · rw [List.mem_singleton.mp ha]
      exact Nat.lt_trans (hltA q hq) (by omega)
  · intro hin hlt2 ul' e₁ e₂ h' tk' hU' ha' hfr F' N'
    have hcm : ¬ ((j : Int) + 1 ∈ x.cm) := fun h => hin ((hcd _ (by omega)).mp h)
    have hcmT : (!decide ((j : Int) + 1 ∈ x.cm)) = true := by simp [hcm]
    have hU1 := hU'
    obtain ⟨o0', o1', o2', o3', o4', o5', rfl⟩ := map_6 ha'
    clear hU' ha'
    obtain ⟨ea, eo⟩ := e₁
    obtain ⟨eb, eo2⟩ := e₂
    simp only [List.cons_append, List.nil_append] at N'
    simp only [List.cons_append, List.nil_append, List.forall_mem_cons, List.not_mem_nil, false_implies, implies_true, and_true] at hfr
    have lea := allLt_of fun p hp => Nat.lt_trans (hltA p hp) (show @LT.lt Nat _ L' ea by omega)
    have leb := allLt_of fun p hp => Nat.lt_trans (hltA p hp) (show @LT.lt Nat _ L' eb by omega)
    dsimp only [List.cons_append, List.nil_append, AllLt] at lea leb
    clear N₂ N₃
    have hnh : (j : Int) + 1 ∈ x.hs ++ [(j : Int) + 1] := by simp
    have hnhT : decide ((j : Int) + 1 ∈ x.hs ++ [(j : Int) + 1]) = true := decide_eq_true hnh
    have hltT : decide ((j : Int) + 1 < x.prior) = false := decide_eq_false hlt2
    have hmax : (if p > x.prior then p else x.prior) = max x.prior p := by split <;> omega
    walk_at "MY ru3"
    all_goals (try (exfalso; exact absurd (by assumption) hcm))
    all_goals (try (exfalso; exact absurd (by assumption) hlt2))
    all_goals (try (exfalso; exact absurd hnh (by assumption)))
    rw [hmax]
    walk_at "MY ru2"
    have hsl9 := srt_len (x.hs ++ [(j : Int) + 1])
    rw [List.length_append, List.length_singleton] at hsl9
    rename Fr g L' _ _ => F₂; rename News g L' _ _ => N₂; rename IntsAre _ (srt _) => hi
    refine src_list (by rfl) F₂ N₂ ⟨_, (N₂ _ (List.Mem.head _)).1, rfl, _, rfl⟩ hi (by omega) (fun k => decide (k < max x.prior p)) (by rfl) (by with_unfolding_all rfl) (by decide) ?_ ?_
    · intro C k t s₃ m₃ E' hkm F' N' hC hx
      walk_at "MY ru2"
      exact testEnd rfl
    · intro D₁ h' tk' vs₁ n₁ F' N' hD hI₁
      have neD₁_0 : NeA D₁ W := Ne.symm (hD (W, _) (by k_subL))
      have neD₁_1 : NeA D₁ MT := Ne.symm (hD (MT, _) (by k_subL))
      have neD₁_2 : NeA D₁ CM := Ne.symm (hD (CM, _) (by k_subL))
      have neD₁_3 : NeA D₁ HS := Ne.symm (hD (HS, _) (by k_subL))
      have neD₁_4 : NeA D₁ WD := Ne.symm (hD (WD, _) (by k_subL))
      have hll := hI₁.length
      have hle := List.length_filter_le (fun k => decide (k < max x.prior p)) (srt (x.hs ++ [(j : Int) + 1]))
      clear hD N₂ F₂
      walk_at "MY ru2"
      rename Fr g L' _ _ => F₂; rename News g L' _ _ => N₂
      refine list_add F₂ N₂ (l := WD) (b := D₁) (vs := wv) (ws := vs₁) (n := n5) (k := n₁) (by k_subL) (by k_subL) hwv hI₁ (by omega) ?_
      intro WD' h' F' N' lW hI₃
      replace lW := allLt_of lW
      dsimp only [AllLt] at lW
      clear F₂ N₂
      walk_at "MY ru2"
      clear hi
      rename Fr g L' _ _ => F₂; rename News g L' _ _ => N₂; rename IntsAre _ (srt _) => hi
      refine src_list (by rfl) F₂ N₂ ⟨_, (N₂ _ (List.Mem.head _)).1, rfl, _, rfl⟩ hi (by omega) (fun k => decide (max x.prior p ≤ k)) (by rfl) (by with_unfolding_all rfl) (by decide) ?_ ?_
      · intro C k t s₃ m₃ E' hkm F' N' hC hx
        walk_at "MY ru2"
        exact testEnd rfl
      · intro D₂ h' tk' vs₂ n₂ F' N' hD hI₂
        have neD₂_0 : NeA D₂ U := Ne.symm (hD (U, _) (by k_subL))
        have neD₂_1 : NeA D₂ dU := Ne.symm (hD (dU, _) (by k_subL))
        have neD₂_2 : NeA D₂ KN := Ne.symm (hD (KN, _) (by k_subL))
        have neD₂_3 : NeA D₂ US := Ne.symm (hD (US, _) (by k_subL))
        have neD₂_4 : NeA D₂ TD := Ne.symm (hD (TD, _) (by k_subL))
        have neD₂_5 : NeA D₂ TR := Ne.symm (hD (TR, _) (by k_subL))
        have neD₂_6 : NeA D₂ P := Ne.symm (hD (P, _) (by k_subL))
        have neD₂_7 : NeA D₂ S := Ne.symm (hD (S, _) (by k_subL))
        have neD₂_8 : NeA D₂ W := Ne.symm (hD (W, _) (by k_subL))
        have neD₂_9 : NeA D₂ MN := Ne.symm (hD (MN, _) (by k_subL))
        have neD₂_10 : NeA D₂ EV := Ne.symm (hD (EV, _) (by k_subL))
        have neD₂_11 : NeA D₂ SN := Ne.symm (hD (SN, _) (by k_subL))
        have neD₂_12 : NeA D₂ CM := Ne.symm (hD (CM, _) (by k_subL))
        have neD₂_13 : NeA D₂ WD' := Ne.symm (hD (WD', _) (by k_subL))
        have neD₂_14 : NeA D₂ MT := Ne.symm (hD (MT, _) (by k_subL))
        have neD₂_15 : NeA D₂ ea := Ne.symm (hD (ea, _) (by k_subL))
        have neD₂_16 : NeA D₂ eb := Ne.symm (hD (eb, _) (by k_subL))
        have hnd2 : List.Nodup [P, S, W, MN, EV, SN, D₂, CM, WD', MT, U, dU, KN, US, TD, TR] := by
          clear hD N₂ F₂
          walk_at "MY nd"
        clear hD N₂ F₂
        have hin2 : (j : Int) + 1 ∈ (srt (x.hs ++ [(j : Int) + 1])).filter fun k => decide (max x.prior p ≤ k) := List.mem_filter.mpr ⟨srt_mem.mpr (by simp), by simp; omega⟩
        generalize hl2 : ((srt (x.hs ++ [(j : Int) + 1])).filter fun k => decide (max x.prior p ≤ k)) = hs₂ at hI₂ hin2
        cases hI₂ with
        | nil => exact nomatch hin2
        | cons k t hI₂ =>
          rename_i vs₄ r
          have hI₄ := IntsAre.cons k t hI₂
          walk_at "MY ru2"
          · rename Fr g L' _ _ => F₂; rename News g L' _ _ => N₂
            have N₄ := (news_pick (a := P) N₂ (by k_subL) (news_pick (a := S) N₂ (by k_subL) (news_pick (a := W) N₂ (by k_subL) (news_pick (a := MN) N₂ (by k_subL) (news_pick (a := EV) N₂ (by k_subL) (news_pick (a := SN) N₂ (by k_subL) (news_pick (a := D₂) N₂ (by k_subL) (news_pick (a := CM) N₂ (by k_subL) (news_pick (a := WD') N₂ (by k_subL) (news_pick (a := MT) N₂ (by k_subL) (news_pick (a := U) N₂ (by k_subL) (news_pick (a := dU) N₂ (by k_subL) (news_pick (a := KN) N₂ (by k_subL) (news_pick (a := US) N₂ (by k_subL) (news_pick (a := TD) N₂ (by k_subL) (news_pick (a := TR) N₂ (by k_subL) (News.nil)))))))))))))))))
            have hoffN := off_app (r := [(ea, eo), (eb, eo2)]) (by walk_at "MY off") (off_new N₄ hrest)
            refine out_ F₂ N₂ fun F₁ N₁ => ?_
            have N₅ := news_app (news_pick (a := P) N₁ (by k_subL) (news_pick (a := S) N₁ (by k_subL) (news_pick (a := W) N₁ (by k_subL) (news_pick (a := MN) N₁ (by k_subL) (news_pick (a := EV) N₁ (by k_subL) (news_pick (a := SN) N₁ (by k_subL) (news_pick (a := D₂) N₁ (by k_subL) (news_pick (a := CM) N₁ (by k_subL) (news_pick (a := WD') N₁ (by k_subL) (news_pick (a := MT) N₁ (by k_subL) (news_pick (a := U) N₁ (by k_subL) (news_pick (a := dU) N₁ (by k_subL) (news_pick (a := KN) N₁ (by k_subL) (news_pick (a := US) N₁ (by k_subL) (news_pick (a := TD) N₁ (by k_subL) (news_pick (a := TR) N₁ (by k_subL) (news_pick (a := ea) N₁ (by k_subL) (news_pick (a := eb) N₁ (by k_subL) (News.nil))))))))))))))))))) (hback _ _ F₂)
            refine hQ j f p _ _ _ [_, _, _, _, _, _] [_, _, _, _, _, _, _, _] [_, _] [(ea, eo), (eb, eo2)] _ _ hfj (by rw [← hq3]; exact hp) (.fresh hin hlt2) ?_ (by rw [tailW_prior, tailW_ever]; exact hU1) hP2 ?_ ?_ hoffN F₁ N₅
            · first
                | (rw [tailW_in (y := { x with cm := x.cm ++ [(j : Int) + 1], hs := x.hs ++ [(j : Int) + 1] }) hl2 (by assumption)]
                   exact ⟨MN, EV, SN, _, CM, WD', MT, _, _, _, _, _, _, _, _, _, _, _, _, _, _, _, _, _, _, _, rfl, by assumption, homn, hmkv, hevs, sent_mono (fun _ _ => .inl) hsvs, hI₄, hcv.append (.cons _ _ .nil), hI₃, hmv, loW, loM⟩)
                | (rw [tailW_out (y := { x with cm := x.cm ++ [(j : Int) + 1], hs := x.hs ++ [(j : Int) + 1] }) hl2 (by assumption)]
                   exact ⟨MN, EV, SN, _, CM, WD', MT, _, _, _, _, _, _, _, _, _, _, _, _, _, _, _, _, _, _, _, rfl, by assumption, homn, hmkv, hevs, sent_mono (fun _ _ => .inl) hsvs, hI₄, hcv.append (.cons _ _ .nil), hI₃, hmv.append (.cons _ _ .nil), loW, loM⟩)
            · exact hnd2
            · intro a ha q hq
              have := hltA q hq
              rcases List.mem_cons.mp ha with rfl | ha
              · exact Nat.lt_trans this (by omega)
              · rw [List.mem_singleton.mp ha]; exact Nat.lt_trans this (by omega)
          · rename Fr g L' _ _ => F₂; rename News g L' _ _ => N₂
            have N₄ := (news_pick (a := P) N₂ (by k_subL) (news_pick (a := S) N₂ (by k_subL) (news_pick (a := W) N₂ (by k_subL) (news_pick (a := MN) N₂ (by k_subL) (news_pick (a := EV) N₂ (by k_subL) (news_pick (a := SN) N₂ (by k_subL) (news_pick (a := D₂) N₂ (by k_subL) (news_pick (a := CM) N₂ (by k_subL) (news_pick (a := WD') N₂ (by k_subL) (news_pick (a := MT) N₂ (by k_subL) (news_pick (a := U) N₂ (by k_subL) (news_pick (a := dU) N₂ (by k_subL) (news_pick (a := KN) N₂ (by k_subL) (news_pick (a := US) N₂ (by k_subL) (news_pick (a := TD) N₂ (by k_subL) (news_pick (a := TR) N₂ (by k_subL) (News.nil)))))))))))))))))
            have hoffN := off_app (r := [(ea, eo), (eb, eo2)]) (by walk_at "MY off") (off_new N₄ hrest)
            refine out_ F₂ N₂ fun F₁ N₁ => ?_
            have N₅ := news_app (news_pick (a := P) N₁ (by k_subL) (news_pick (a := S) N₁ (by k_subL) (news_pick (a := W) N₁ (by k_subL) (news_pick (a := MN) N₁ (by k_subL) (news_pick (a := EV) N₁ (by k_subL) (news_pick (a := SN) N₁ (by k_subL) (news_pick (a := D₂) N₁ (by k_subL) (news_pick (a := CM) N₁ (by k_subL) (news_pick (a := WD') N₁ (by k_subL) (news_pick (a := MT) N₁ (by k_subL) (news_pick (a := U) N₁ (by k_subL) (news_pick (a := dU) N₁ (by k_subL) (news_pick (a := KN) N₁ (by k_subL) (news_pick (a := US) N₁ (by k_subL) (news_pick (a := TD) N₁ (by k_subL) (news_pick (a := TR) N₁ (by k_subL) (news_pick (a := ea) N₁ (by k_subL) (news_pick (a := eb) N₁ (by k_subL) (News.nil))))))))))))))))))) (hback _ _ F₂)
            refine hQ j f p _ _ _ [_, _, _, _, _, _] [_, _, _, _, _, _, _, _] [_, _] [(ea, eo), (eb, eo2)] _ _ hfj (by rw [← hq3]; exact hp) (.fresh hin hlt2) ?_ (by rw [tailW_prior, tailW_ever]; exact hU1) hP2 ?_ ?_ hoffN F₁ N₅
            · first
                | (rw [tailW_in (y := { x with cm := x.cm ++ [(j : Int) + 1], hs := x.hs ++ [(j : Int) + 1] }) hl2 (by assumption)]
                   exact ⟨MN, EV, SN, _, CM, WD', MT, _, _, _, _, _, _, _, _, _, _, _, _, _, _, _, _, _, _, _, rfl, by assumption, homn, hmkv, hevs, sent_mono (fun _ _ => .inl) hsvs, hI₄, hcv.append (.cons _ _ .nil), hI₃, hmv, loW, loM⟩)
                | (rw [tailW_out (y := { x with cm := x.cm ++ [(j : Int) + 1], hs := x.hs ++ [(j : Int) + 1] }) hl2 (by assumption)]
                   exact ⟨MN, EV, SN, _, CM, WD', MT, _, _, _, _, _, _, _, _, _, _, _, _, _, _, _, _, _, _, _, rfl, by assumption, homn, hmkv, hevs, sent_mono (fun _ _ => .inl) hsvs, hI₄, hcv.append (.cons _ _ .nil), hI₃, hmv.append (.cons _ _ .nil), loW, loM⟩)
            · exact hnd2
            · intro a ha q hq
              have := hltA q hq
              rcases List.mem_cons.mp ha with rfl | ha
              · exact Nat.lt_trans this (by omega)
              · rw [List.mem_singleton.mp ha]; exact Nat.lt_trans this (by omega)
end
-- text Deed
section
variable {w : World} {mean : ExcName → Option Value} {mg mb : Str → Option Value}
  {dp un : Nat} {gd : Option (List Code)} {cn : Str} {cs : Scope} {a : Addr} {ccd : Value} {cl : List (Str × Addr)} {outer : List Env} {A₀ : Around}
  {base h₀ : Heap} {L : Addr} {m : Str → Option Value} {s : Shared} {Q E : Value → Shared → Prop} {rest : List (Addr × Obj)}

theorem off_nil' {r : List (Addr × Obj)} : Off [] r := fun _ h => nomatch h
set_option maxRecDepth 100000 in
set_option maxHeartbeats 8000000 in
theorem deed_spec (F : Fr h₀ L s.heap m) (B : Below A₀ base outer h₀) (X : (hd.heap_39 w.params).In h₀) (T : Top Mine.view (looseW Mine.view []) mean mg mb h₀) (hk : cs.kind = .function)
    (hdp : dp + 4 * 6 < recursionLimit) (hun : un + 30 * 6 < cLine)
    {TI : Addr → Obj → Prop} {P W I U : Addr} {c turn : Int} {tt : Tok} {t : Nat} {x : Wst} {dk : List Int} {σ : Ust} {l : List (Addr × Obj)} (hA : Whole w TI P W I U c x dk σ l) (hV : Inv t x dk σ)
    (hTI : ∀ a o, TI a o → Stat h₀ rest a o) (ht : t ≤ 17) (hc0 : 0 ≤ c) (hc1 : c ≤ 55)
    (N : News h₀ L s.heap (l ++ rest)) (hoff : Off l rest)
    (hQ : ∀ c' x' dk' σ' l' ext h' tk', c ≤ c' → c' ≤ c + 3 → Inv (t + 1) x' dk' σ' → Whole w (TIx TI ext) P W I U c' x' dk' σ' l' → Off l' (ext ++ rest) → Off ext rest → Fr h₀ L h' m → News h₀ L h' (l' ++ (ext ++ rest)) → Q (.bool true) { s with heap := h', toks := tk' }) :
    wpAny (model PG w) (ktrTop dp un gd cn cs L a ccd cl outer) (call (.ref 230) [.ref P, .ref W, .int turn tt, .ref I, .ref U]) Q E s := by
  walk_at "MY fill"
  obtain ⟨pl, wl, il, ul, rfl, hP, hW, hI, hU, hnd⟩ := hA
  have hU0 := hU
  have hP0 := hP
  have hW0 := hW
  have hI0 := hI
  obtain ⟨S, op0, op1, rfl⟩ := pen_shape hP
  clear hP
  obtain ⟨dU, KN, US, TD, TR, ou0, ou1, ou2, ou3, ou4, ou5, rfl⟩ := usr_shape hU
  clear hU
  obtain ⟨MN, EV, SN, HS, CM, WD, MT, ow, omn, mkv, evs, n1, svs, n2, hv, n3, cv, n4, wv, n5, mv, n6, t1, t2, t3, t4, rfl, how, homn, hmkv, hevs, hsvs, hhv, hcv, hwv, hmv, loW, loM⟩ := hW
  obtain ⟨dI, D1, E1, odi, o1, kvs, ievs, i1, rfl, ⟨q1, q2, q3, q4, q5, q6, v1, v4, v5, rfl⟩, hdi1, hdb, hiev, lo, j1, j2, j3⟩ := hI
  have hnd0 := hnd
  obtain ⟨rk, r0, r1, r2, r3, r4, r5, r6, r7, r8, r9, r10, r11, r12, r13, r14, r15, r16, r17, r18, r19, _⟩ := ranks hnd 0
  clear hnd
  refine call_sub (K := hd.heap_39 w.params) (binds := [(Str.ofString "pen", .ref P), (Str.ofString "world", .ref W), (Str.ofString "turn", .int turn tt), (Str.ofString "issuer", .ref I), (Str.ofString "user", .ref U)]) B F X T hk N hoff (by k_is) (by k_is) (by omega) (BindsTo.of_eq rfl) (locs rfl) ?_ rfl rfl rfl (by decide)
  intro g L' h₁ FG hrest hback hlt F' N' B' X' T'
  simp only [List.cons_append, List.nil_append] at N'
  have hTIh : ∀ a o, TI a o → g.get? a = some o := fun a o h => (hTI a o h).elim (fun e => FG.keep _ _ e) fun e => hrest _ e
  replace hlt := allLt_of hlt
  dsimp only [List.cons_append, List.nil_append, AllLt] at hlt
  clear FG N F B X T hoff hTI
  have nd1 : List.Nodup [P, S, W, MN, EV, SN, HS, CM, WD, MT, I, dI, D1, E1] := (List.nodup_append.mp (show ([P, S, W, MN, EV, SN, HS, CM, WD, MT, I, dI, D1, E1] ++ [U, dU, KN, US, TD, TR]).Nodup from hnd0)).1
  have hmnl := hV.mnl
  have hsvl := hsvs.1
  have hdkl := hV.dkt
  have hmtl := hV.mtl
  have hevl := hV.lt
  obtain ⟨z1', z2', z3', z4', z5', z6', z7', z8'⟩ := hV.sizes
  k_unmd
  k_fold
  walk_at "MY ru0"
  ·
    rename News g L' _ _ => N₂
    have N₃ := (news_pick (a := P) N₂ (by k_subL) (news_pick (a := S) N₂ (by k_subL) (news_pick (a := W) N₂ (by k_subL) (news_pick (a := MN) N₂ (by k_subL) (news_pick (a := EV) N₂ (by k_subL) (news_pick (a := SN) N₂ (by k_subL) (news_pick (a := HS) N₂ (by k_subL) (news_pick (a := CM) N₂ (by k_subL) (news_pick (a := WD) N₂ (by k_subL) (news_pick (a := MT) N₂ (by k_subL) (news_pick (a := I) N₂ (by k_subL) (news_pick (a := dI) N₂ (by k_subL) (news_pick (a := D1) N₂ (by k_subL) (news_pick (a := E1) N₂ (by k_subL) (news_pick (a := U) N₂ (by k_subL) (news_pick (a := dU) N₂ (by k_subL) (news_pick (a := KN) N₂ (by k_subL) (news_pick (a := US) N₂ (by k_subL) (news_pick (a := TD) N₂ (by k_subL) (news_pick (a := TR) N₂ (by k_subL) (News.nil)))))))))))))))))))))
    refine lissue_spec (pl := [_, _]) (by k_asm) (by k_asm) (by k_asm) (by k_asm) rfl (by k_room) (by k_units) hP0 hW0 hI0 (by omega) (by omega) (by omega) (by omega) hV.ln hV.mn0 hV.mn1 nd1 N₃ (by walk_at "MY off") ?_ ?_
    · intro pl' h' tk' hP' ha' F' N'
      clear N₂ N₃
      walk_at "MY ru0"
      rename Fr g L' _ _ => F₂; rename News g L' _ _ => N₂
      refine out_ F₂ N₂ fun F₁ N₁ => ?_
      refine hQ (c + 1) x dk σ (pl' ++ (_ ++ (_ ++ _))) [] _ _ (by omega) (by omega) hV.mono ⟨pl', _, _, _, rfl, hP', wd_mono (fun _ _ => .inl) hW0, hI0, usr_mono (fun _ _ => .inl) hU0, by rw [List.map_append, ha', ← List.map_append]; exact hnd0⟩ (off_new (news_sub N₂ mem_r1) hrest) off_nil' F₁ (news_app (news_sub N₁ mem_r1) (hback _ _ F₂))
    · intro cid pl' wl' il' y h' tk' hcid hcl hP' hW' hI' ha' hy F' N'
      clear N₂ N₃
      walk_at "MY ru0"
      rename Fr g L' _ _ => F₂; rename News g L' _ _ => N₂
      refine out_ F₂ N₂ fun F₁ N₁ => ?_
      have N₅ := news_app (news_sub (l' := (pl' ++ (wl' ++ (il' ++ [_, _, _, _, _, _]))) ++ [y]) N₁ mem_r2) (hback _ _ F₂)
      rw [List.append_assoc] at N₅
      refine hQ (c + 1) _ dk σ (pl' ++ (wl' ++ (il' ++ _))) [y] _ _ (by omega) (by omega) (issue_inv hV hcid hcl) ⟨pl', wl', il', _, rfl, hP', hW', hI', usr_mono' (fun _ _ => .inl) hU0 (fun k hk => cidOf_old (hV.dk0 k (hV.kd k hk)) (hV.dk1 k (hV.kd k hk))) (fun k hk => cidOf_old (hV.dk0 k hk) (hV.dk1 k hk)), nd_r1 ha' hnd0⟩ (off_app (off_r1 ha' hy) (off_new (news_sub N₂ fun p hp => mem_r2 (e := [y]) p (List.mem_append_left _ hp)) hrest)) (off_new (news_sub N₂ fun p hp => mem_r2 (e := [y]) p (List.mem_append_right _ hp)) hrest) F₁ N₅
  · rename Fr g L' _ _ => F₂; rename News g L' _ _ => N₂
    refine newList_K F₂ N₂ ?_
    intro FL h' F' N' lFL
    replace lFL := allLt_of lFL
    dsimp only [AllLt] at lFL
    clear F₂ N₂
    walk_at "MY ru0"
    rename News g L' _ _ => N₂
    have N₃ := (news_pick (a := P) N₂ (by k_subL) (news_pick (a := S) N₂ (by k_subL) (news_pick (a := W) N₂ (by k_subL) (news_pick (a := MN) N₂ (by k_subL) (news_pick (a := EV) N₂ (by k_subL) (news_pick (a := SN) N₂ (by k_subL) (news_pick (a := HS) N₂ (by k_subL) (news_pick (a := CM) N₂ (by k_subL) (news_pick (a := WD) N₂ (by k_subL) (news_pick (a := MT) N₂ (by k_subL) (news_pick (a := U) N₂ (by k_subL) (news_pick (a := dU) N₂ (by k_subL) (news_pick (a := KN) N₂ (by k_subL) (news_pick (a := US) N₂ (by k_subL) (news_pick (a := TD) N₂ (by k_subL) (news_pick (a := TR) N₂ (by k_subL) (news_pick (a := I) N₂ (by k_subL) (news_pick (a := dI) N₂ (by k_subL) (news_pick (a := D1) N₂ (by k_subL) (news_pick (a := E1) N₂ (by k_subL) (news_pick (a := FL) N₂ (by k_subL) (News.nil))))))))))))))))))))))
    refine pick_spec (pl := [_, _]) (by k_asm) (by k_asm) (by k_asm) (by k_asm) rfl (by k_room) (by k_units) hP0 hc0 (by omega) (by omega) N₃ (by walk_at "MY off") ?_
    intro i ti pl' h' tk' hi0 hi1 hP' ha' F' N'
    have hP1 := hP'
    obtain ⟨op0', op1', rfl⟩ := map_2 ha'
    clear hP' ha'
    simp only [List.cons_append, List.nil_append] at N'
    clear N₂ N₃
    walk_at "MY ru0"
    ·
      rename News g L' _ _ => N₂
      have N₃ := (news_pick (a := P) N₂ (by k_subL) (news_pick (a := S) N₂ (by k_subL) (news_pick (a := W) N₂ (by k_subL) (news_pick (a := MN) N₂ (by k_subL) (news_pick (a := EV) N₂ (by k_subL) (news_pick (a := SN) N₂ (by k_subL) (news_pick (a := HS) N₂ (by k_subL) (news_pick (a := CM) N₂ (by k_subL) (news_pick (a := WD) N₂ (by k_subL) (news_pick (a := MT) N₂ (by k_subL) (news_pick (a := I) N₂ (by k_subL) (news_pick (a := dI) N₂ (by k_subL) (news_pick (a := D1) N₂ (by k_subL) (news_pick (a := E1) N₂ (by k_subL) (news_pick (a := U) N₂ (by k_subL) (news_pick (a := dU) N₂ (by k_subL) (news_pick (a := KN) N₂ (by k_subL) (news_pick (a := US) N₂ (by k_subL) (news_pick (a := TD) N₂ (by k_subL) (news_pick (a := TR) N₂ (by k_subL) (News.nil)))))))))))))))))))))
      refine lissue_spec (pl := [_, _]) (by k_asm) (by k_asm) (by k_asm) (by k_asm) rfl (by k_room) (by k_units) hP1 hW0 hI0 (by omega) (by omega) (by omega) (by omega) hV.ln hV.mn0 hV.mn1 nd1 N₃ (by walk_at "MY off") ?_ ?_
      · intro pl' h' tk' hP' ha' F' N'
        clear N₂ N₃
        walk_at "MY ru0"
        rename Fr g L' _ _ => F₂; rename News g L' _ _ => N₂
        refine out_ F₂ N₂ fun F₁ N₁ => ?_
        refine hQ (c + 1 + 1) x dk σ (pl' ++ (_ ++ (_ ++ _))) [] _ _ (by omega) (by omega) hV.mono ⟨pl', _, _, _, rfl, hP', wd_mono (fun _ _ => .inl) hW0, hI0, usr_mono (fun _ _ => .inl) hU0, by rw [List.map_append, ha', ← List.map_append]; exact hnd0⟩ (off_new (news_sub N₂ mem_r1) hrest) off_nil' F₁ (news_app (news_sub N₁ mem_r1) (hback _ _ F₂))
      · intro cid pl' wl' il' y h' tk' hcid hcl hP' hW' hI' ha' hy F' N'
        clear N₂ N₃
        walk_at "MY ru0"
        rename Fr g L' _ _ => F₂; rename News g L' _ _ => N₂
        refine out_ F₂ N₂ fun F₁ N₁ => ?_
        have N₅ := news_app (news_sub (l' := (pl' ++ (wl' ++ (il' ++ [_, _, _, _, _, _]))) ++ [y]) N₁ mem_r2) (hback _ _ F₂)
        rw [List.append_assoc] at N₅
        refine hQ (c + 1 + 1) _ dk σ (pl' ++ (wl' ++ (il' ++ _))) [y] _ _ (by omega) (by omega) (issue_inv hV hcid hcl) ⟨pl', wl', il', _, rfl, hP', hW', hI', usr_mono' (fun _ _ => .inl) hU0 (fun k hk => cidOf_old (hV.dk0 k (hV.kd k hk)) (hV.dk1 k (hV.kd k hk))) (fun k hk => cidOf_old (hV.dk0 k hk) (hV.dk1 k hk)), nd_r1 ha' hnd0⟩ (off_app (off_r1 ha' hy) (off_new (news_sub N₂ fun p hp => mem_r2 (e := [y]) p (List.mem_append_left _ hp)) hrest)) (off_new (news_sub N₂ fun p hp => mem_r2 (e := [y]) p (List.mem_append_right _ hp)) hrest) F₁ N₅
    · rename Fr g L' _ _ => F₂; rename News g L' _ _ => N₂
      refine newList_K F₂ N₂ ?_
      intro NL h' F' N' lNL
      replace lNL := allLt_of lNL
      dsimp only [AllLt] at lNL
      clear F₂ N₂
      walk_at "MY ru0"
      rename Fr g L' _ _ => F₂; rename News g L' _ _ => N₂
      refine list_isnil (vs := svs) (N₂ (SN, _) (by k_subL)).1 (N₂ (NL, _) (by k_subL)).1 (by k_units) ?_
      by_cases hsv : svs = []
      · rw [show decide (svs = []) = true from decide_eq_true hsv]
        walk_at "MY ru0"
        rename News g L' _ _ => N₂
        have N₃ := (news_pick (a := P) N₂ (by k_subL) (news_pick (a := S) N₂ (by k_subL) (news_pick (a := W) N₂ (by k_subL) (news_pick (a := MN) N₂ (by k_subL) (news_pick (a := EV) N₂ (by k_subL) (news_pick (a := SN) N₂ (by k_subL) (news_pick (a := HS) N₂ (by k_subL) (news_pick (a := CM) N₂ (by k_subL) (news_pick (a := WD) N₂ (by k_subL) (news_pick (a := MT) N₂ (by k_subL) (news_pick (a := I) N₂ (by k_subL) (news_pick (a := dI) N₂ (by k_subL) (news_pick (a := D1) N₂ (by k_subL) (news_pick (a := E1) N₂ (by k_subL) (news_pick (a := U) N₂ (by k_subL) (news_pick (a := dU) N₂ (by k_subL) (news_pick (a := KN) N₂ (by k_subL) (news_pick (a := US) N₂ (by k_subL) (news_pick (a := TD) N₂ (by k_subL) (news_pick (a := TR) N₂ (by k_subL) (News.nil)))))))))))))))))))))
        refine lissue_spec (pl := [_, _]) (by k_asm) (by k_asm) (by k_asm) (by k_asm) rfl (by k_room) (by k_units) hP1 hW0 hI0 (by omega) (by omega) (by omega) (by omega) hV.ln hV.mn0 hV.mn1 nd1 N₃ (by walk_at "MY off") ?_ ?_
        · intro pl' h' tk' hP' ha' F' N'
          clear N₂ N₃
          walk_at "MY ru0"
          rename Fr g L' _ _ => F₂; rename News g L' _ _ => N₂
          refine out_ F₂ N₂ fun F₁ N₁ => ?_
          refine hQ (c + 1 + 1) x dk σ (pl' ++ (_ ++ (_ ++ _))) [] _ _ (by omega) (by omega) hV.mono ⟨pl', _, _, _, rfl, hP', wd_mono (fun _ _ => .inl) hW0, hI0, usr_mono (fun _ _ => .inl) hU0, by rw [List.map_append, ha', ← List.map_append]; exact hnd0⟩ (off_new (news_sub N₂ mem_r1) hrest) off_nil' F₁ (news_app (news_sub N₁ mem_r1) (hback _ _ F₂))
        · intro cid pl' wl' il' y h' tk' hcid hcl hP' hW' hI' ha' hy F' N'
          clear N₂ N₃
          walk_at "MY ru0"
          rename Fr g L' _ _ => F₂; rename News g L' _ _ => N₂
          refine out_ F₂ N₂ fun F₁ N₁ => ?_
          have N₅ := news_app (news_sub (l' := (pl' ++ (wl' ++ (il' ++ [_, _, _, _, _, _]))) ++ [y]) N₁ mem_r2) (hback _ _ F₂)
          rw [List.append_assoc] at N₅
          refine hQ (c + 1 + 1) _ dk σ (pl' ++ (wl' ++ (il' ++ _))) [y] _ _ (by omega) (by omega) (issue_inv hV hcid hcl) ⟨pl', wl', il', _, rfl, hP', hW', hI', usr_mono' (fun _ _ => .inl) hU0 (fun k hk => cidOf_old (hV.dk0 k (hV.kd k hk)) (hV.dk1 k (hV.kd k hk))) (fun k hk => cidOf_old (hV.dk0 k hk) (hV.dk1 k hk)), nd_r1 ha' hnd0⟩ (off_app (off_r1 ha' hy) (off_new (news_sub N₂ fun p hp => mem_r2 (e := [y]) p (List.mem_append_left _ hp)) hrest)) (off_new (news_sub N₂ fun p hp => mem_r2 (e := [y]) p (List.mem_append_right _ hp)) hrest) F₁ N₅
      · rw [show decide (svs = []) = false from decide_eq_false hsv]
        have hf0 : 0 < x.fs.length := by rw [← hsvs.1]; exact List.length_pos_iff.mpr hsv
        walk_at "MY ru0"
        all_goals first | (exfalso; omega) | skip
        rename News g L' _ _ => N₂
        have N₃ := (news_pick (a := P) N₂ (by k_subL) (news_pick (a := S) N₂ (by k_subL) (news_pick (a := W) N₂ (by k_subL) (news_pick (a := MN) N₂ (by k_subL) (news_pick (a := EV) N₂ (by k_subL) (news_pick (a := SN) N₂ (by k_subL) (news_pick (a := HS) N₂ (by k_subL) (news_pick (a := CM) N₂ (by k_subL) (news_pick (a := WD) N₂ (by k_subL) (news_pick (a := MT) N₂ (by k_subL) (news_pick (a := U) N₂ (by k_subL) (news_pick (a := dU) N₂ (by k_subL) (news_pick (a := KN) N₂ (by k_subL) (news_pick (a := US) N₂ (by k_subL) (news_pick (a := TD) N₂ (by k_subL) (news_pick (a := TR) N₂ (by k_subL) (news_pick (a := I) N₂ (by k_subL) (news_pick (a := dI) N₂ (by k_subL) (news_pick (a := D1) N₂ (by k_subL) (news_pick (a := E1) N₂ (by k_subL) (News.nil)))))))))))))))))))))
        refine lcome_spec (pl := [_, _]) (by k_asm) (by k_asm) (by k_asm) (by k_asm) rfl (by k_room) (by k_units) hP1 hW0 hU0 (fun a o h => .inl (hTIh a o h)) (by omega) (by omega) hV.ev hV.dk0 hV.dk1 hV.ln (by omega) hf0 (by omega) (by omega) (by omega) hV.knd (by omega) hV.kd
          hV.hcd (fun n => by rw [hV.hs]; exact srt_mem) (by omega) (by omega) (by omega) (by omega) (by rw [hV.hs, hV.now]; exact srt_mem.mpr hV.cur) (fun k hk => hV.pr k (by rw [hV.hs] at hk; exact srt_mem.mp hk)) (fun i f hf => (hV.fsk i f hf).1) (fun i f p hf hp hn hq => come_lim hV hf hp hn hq) (nd_s3 (a := [_, _]) (c := [_, _, _, _]) hnd0) N₃ (by walk_at "MY off") ?_
        intro j f p x' σ' dk' ul' wl' pl' ext h' tk' hfj hp hc' hW' hU' hP' hnd' hext hoffN F' N'
        clear N₂ N₃ F₂
        walk_at "MY ru0"
        rename Fr g L' _ _ => F₂; rename News g L' _ _ => N₂
        obtain ⟨e1, e2, e3, e4⟩ := come_keeps hc'
        refine out_ F₂ N₂ fun F₁ N₁ => ?_
        have N₅ := news_app (news_sub (l' := (pl' ++ (wl' ++ ([_, _, _, _] ++ ul'))) ++ ext) N₁ mem_r3) (hback _ _ F₂)
        rw [List.append_assoc] at N₅
        refine hQ (c + 1 + 1 + 1) x' dk' σ' (pl' ++ (wl' ++ (_ ++ ul'))) ext _ _ (by omega) (by omega) (come_inv hV hfj hp hc') ⟨pl', wl', _, ul', rfl, hP', hW', by rw [e1, e2, e3, e4]; exact hI0, by rw [e1]; exact hU', nd_r2 hnd' (nd_c (a := [_, _]) (c := [_, _, _, _]) hnd0) hoffN⟩ (off_app (off_r2 hoffN hext) (off_new (news_sub N₂ fun p hp => mem_r3 (e := ext) p (List.mem_append_left _ hp)) hrest)) (off_new (news_sub N₂ fun p hp => mem_r3 (e := ext) p (List.mem_append_right _ hp)) hrest) F₁ N₅
    · exfalso; omega
    · rename News g L' _ _ => N₂
      have N₃ := (news_pick (a := P) N₂ (by k_subL) (news_pick (a := S) N₂ (by k_subL) (news_pick (a := W) N₂ (by k_subL) (news_pick (a := MN) N₂ (by k_subL) (news_pick (a := EV) N₂ (by k_subL) (news_pick (a := SN) N₂ (by k_subL) (news_pick (a := HS) N₂ (by k_subL) (news_pick (a := CM) N₂ (by k_subL) (news_pick (a := WD) N₂ (by k_subL) (news_pick (a := MT) N₂ (by k_subL) (news_pick (a := U) N₂ (by k_subL) (news_pick (a := dU) N₂ (by k_subL) (news_pick (a := KN) N₂ (by k_subL) (news_pick (a := US) N₂ (by k_subL) (news_pick (a := TD) N₂ (by k_subL) (news_pick (a := TR) N₂ (by k_subL) (news_pick (a := I) N₂ (by k_subL) (news_pick (a := dI) N₂ (by k_subL) (news_pick (a := D1) N₂ (by k_subL) (news_pick (a := E1) N₂ (by k_subL) (News.nil)))))))))))))))))))))
      refine pick_spec (pl := [_, _]) (by k_asm) (by k_asm) (by k_asm) (by k_asm) rfl (by k_room) (by k_units) hP1 (by omega) (by omega) (by omega) N₃ (by walk_at "MY off") ?_
      intro p tp pl' h' tk' hp0 hp1 hP' ha' F' N'
      have hP2 := hP'
      obtain ⟨op0', op1', rfl⟩ := map_2 ha'
      clear hP' ha'
      simp only [List.cons_append, List.nil_append] at N'
      clear N₂ N₃
      walk_at "MY ru0"
      rename News g L' _ _ => N₂
      have N₃ := (news_pick (a := I) N₂ (by k_subL) (news_pick (a := dI) N₂ (by k_subL) (news_pick (a := D1) N₂ (by k_subL) (news_pick (a := E1) N₂ (by k_subL) (news_pick (a := P) N₂ (by k_subL) (news_pick (a := S) N₂ (by k_subL) (news_pick (a := W) N₂ (by k_subL) (news_pick (a := MN) N₂ (by k_subL) (news_pick (a := EV) N₂ (by k_subL) (news_pick (a := SN) N₂ (by k_subL) (news_pick (a := HS) N₂ (by k_subL) (news_pick (a := CM) N₂ (by k_subL) (news_pick (a := WD) N₂ (by k_subL) (news_pick (a := MT) N₂ (by k_subL) (news_pick (a := U) N₂ (by k_subL) (news_pick (a := dU) N₂ (by k_subL) (news_pick (a := KN) N₂ (by k_subL) (news_pick (a := US) N₂ (by k_subL) (news_pick (a := TD) N₂ (by k_subL) (news_pick (a := TR) N₂ (by k_subL) (News.nil)))))))))))))))))))))
      refine askret_spec (by k_asm) (by k_asm) (by k_asm) (by k_asm) rfl (by k_room) (by k_units) hI0 N₃ (by walk_at "MY off") ?_
      intro il' h' tk' hI' ha' F' N'
      have hI3 := hI'
      obtain ⟨oi0', oi1', oi2', oi3', rfl⟩ := map_4 ha'
      simp only [List.cons_append, List.nil_append] at N'
      clear N₂ N₃
      walk_at "MY ru0"
      rename Fr g L' _ _ => F₂; rename News g L' _ _ => N₂; rename Obj.IsDictOf (PySem.strKind _ _) _ _ => hdw
      have hq : max x.asked (min p (x.ever.length : Int)) = if (if (svs.length : Int) + 1 < p then (svs.length : Int) + 1 else p) > x.asked then (if (svs.length : Int) + 1 < p then (svs.length : Int) + 1 else p) else x.asked := by
        have := hV.ln
        split <;> split at * <;> omega
      rw [← hq] at hdw
      refine out_ F₂ N₂ fun F₁ N₁ => ?_
      have N₅ := (news_pick (a := P) N₁ (by k_subL) (news_pick (a := S) N₁ (by k_subL) (news_pick (a := W) N₁ (by k_subL) (news_pick (a := MN) N₁ (by k_subL) (news_pick (a := EV) N₁ (by k_subL) (news_pick (a := SN) N₁ (by k_subL) (news_pick (a := HS) N₁ (by k_subL) (news_pick (a := CM) N₁ (by k_subL) (news_pick (a := WD) N₁ (by k_subL) (news_pick (a := MT) N₁ (by k_subL) (news_pick (a := I) N₁ (by k_subL) (news_pick (a := dI) N₁ (by k_subL) (news_pick (a := D1) N₁ (by k_subL) (news_pick (a := E1) N₁ (by k_subL) (news_pick (a := U) N₁ (by k_subL) (news_pick (a := dU) N₁ (by k_subL) (news_pick (a := KN) N₁ (by k_subL) (news_pick (a := US) N₁ (by k_subL) (news_pick (a := TD) N₁ (by k_subL) (news_pick (a := TR) N₁ (by k_subL) (News.nil)))))))))))))))))))))
      have N₄ := (news_pick (a := P) N₂ (by k_subL) (news_pick (a := S) N₂ (by k_subL) (news_pick (a := W) N₂ (by k_subL) (news_pick (a := MN) N₂ (by k_subL) (news_pick (a := EV) N₂ (by k_subL) (news_pick (a := SN) N₂ (by k_subL) (news_pick (a := HS) N₂ (by k_subL) (news_pick (a := CM) N₂ (by k_subL) (news_pick (a := WD) N₂ (by k_subL) (news_pick (a := MT) N₂ (by k_subL) (news_pick (a := I) N₂ (by k_subL) (news_pick (a := dI) N₂ (by k_subL) (news_pick (a := D1) N₂ (by k_subL) (news_pick (a := E1) N₂ (by k_subL) (news_pick (a := U) N₂ (by k_subL) (news_pick (a := dU) N₂ (by k_subL) (news_pick (a := KN) N₂ (by k_subL) (news_pick (a := US) N₂ (by k_subL) (news_pick (a := TD) N₂ (by k_subL) (news_pick (a := TR) N₂ (by k_subL) (News.nil)))))))))))))))))))))
      exact hQ (c + 1 + 1) _ dk σ ([_, _] ++ ([_, _, _, _, _, _, _, _] ++ ([_, _, _, _] ++ [_, _, _, _, _, _]))) [] _ _ (by omega) (by omega) (ask_inv hV p) ⟨_, _, _, _, rfl, hP2, ⟨MN, EV, SN, HS, CM, WD, MT, _, _, _, _, _, _, _, _, _, _, _, _, _, _, _, _, _, _, _, rfl, hdw, homn, hmkv, hevs, sent_mono (fun _ _ => .inl) hsvs, hhv, hcv, hwv, hmv, loW, loM⟩, hI3, usr_mono (fun _ _ => .inl) hU0, hnd0⟩ (off_new N₄ hrest) off_nil' F₁ (news_app N₅ (hback _ _ F₂))
    · rename News g L' _ _ => N₂
      have N₃ := (news_pick (a := W) N₂ (by k_subL) (news_pick (a := MN) N₂ (by k_subL) (news_pick (a := EV) N₂ (by k_subL) (news_pick (a := SN) N₂ (by k_subL) (news_pick (a := HS) N₂ (by k_subL) (news_pick (a := CM) N₂ (by k_subL) (news_pick (a := WD) N₂ (by k_subL) (news_pick (a := MT) N₂ (by k_subL) (news_pick (a := U) N₂ (by k_subL) (news_pick (a := dU) N₂ (by k_subL) (news_pick (a := KN) N₂ (by k_subL) (news_pick (a := US) N₂ (by k_subL) (news_pick (a := TD) N₂ (by k_subL) (news_pick (a := TR) N₂ (by k_subL) (news_pick (a := P) N₂ (by k_subL) (news_pick (a := S) N₂ (by k_subL) (news_pick (a := I) N₂ (by k_subL) (news_pick (a := dI) N₂ (by k_subL) (news_pick (a := D1) N₂ (by k_subL) (news_pick (a := E1) N₂ (by k_subL) (News.nil)))))))))))))))))))))
      refine lchanged_spec (wl := [_, _, _, _, _, _, _, _]) (by k_asm) (by k_asm) (by k_asm) (by k_asm) rfl (by k_room) (by k_units) hW0 hU0 (by omega) (by omega) (by omega) hV.cur (by omega) (by omega) (by omega) (by rw [hV.hs, hV.now]; exact srt_mem.mpr hV.cur) z8' hV.hleft (nd_s5 (a := [_, _]) (c := [_, _, _, _]) hnd0) N₃ (by walk_at "MY off") ?_ ?_
      · intro _ h' tk' F' N'
        clear N₂ N₃
        walk_at "MY ru0"
        rename Fr g L' _ _ => F₂; rename News g L' _ _ => N₂
        refine out_ F₂ N₂ fun F₁ N₁ => ?_
        exact hQ (c + 1) x dk σ ([_, _] ++ (_ ++ ([_, _, _, _] ++ _))) [] _ _ (by omega) (by omega) hV.mono ⟨_, _, _, _, rfl, hP1, wd_mono (fun _ _ => .inl) hW0, hI0, usr_mono (fun _ _ => .inl) hU0, hnd0⟩ (off_new (news_sub N₂ mem_r5) hrest) off_nil' F₁ (news_app (news_sub N₁ mem_r5) (hback _ _ F₂))
      · intro k r hl wl' ul' h' tk' hW' hU' ha' F' N'
        clear N₂ N₃
        walk_at "MY ru0"
        rename Fr g L' _ _ => F₂; rename News g L' _ _ => N₂
        refine out_ F₂ N₂ fun F₁ N₁ => ?_
        exact hQ (c + 1) _ dk _ ([_, _] ++ (wl' ++ ([_, _, _, _] ++ ul'))) [] _ _ (by omega) (by omega) (chg_inv hV hl) ⟨_, wl', _, ul', rfl, hP1, wd_mono (fun _ _ => .inl) hW', hI0, usr_mono (fun _ _ => .inl) hU', nd_r5 ha' hnd0⟩ (off_new (news_sub N₂ mem_r5) hrest) off_nil' F₁ (news_app (news_sub N₁ mem_r5) (hback _ _ F₂))
    · rename News g L' _ _ => N₂
      have N₃ := (news_pick (a := U) N₂ (by k_subL) (news_pick (a := dU) N₂ (by k_subL) (news_pick (a := KN) N₂ (by k_subL) (news_pick (a := US) N₂ (by k_subL) (news_pick (a := TD) N₂ (by k_subL) (news_pick (a := TR) N₂ (by k_subL) (news_pick (a := W) N₂ (by k_subL) (news_pick (a := MN) N₂ (by k_subL) (news_pick (a := EV) N₂ (by k_subL) (news_pick (a := SN) N₂ (by k_subL) (news_pick (a := HS) N₂ (by k_subL) (news_pick (a := CM) N₂ (by k_subL) (news_pick (a := WD) N₂ (by k_subL) (news_pick (a := MT) N₂ (by k_subL) (news_pick (a := I) N₂ (by k_subL) (news_pick (a := dI) N₂ (by k_subL) (news_pick (a := D1) N₂ (by k_subL) (news_pick (a := E1) N₂ (by k_subL) (news_pick (a := P) N₂ (by k_subL) (news_pick (a := S) N₂ (by k_subL) (News.nil)))))))))))))))))))))
      refine lwords_spec (by k_asm) (by k_asm) (by k_asm) (by k_asm) rfl (by k_room) (by k_units) hW0 hI0 hU0 hV.tr (by omega) (by omega) hV.ev hV.wm hV.wn (by rw [hV.now]; exact hV.km _ hV.cur) (by rw [hV.now]; exact fun a => hV.wk _ a hV.cur) hV.mn0 hV.mn1 (nd_s4 (a := [_, _]) hnd0) N₃ (by walk_at "MY off") ?_
      intro wl' il' ul' h' tk' hW' hI' hU' hnd' hoffN F' N'
      clear N₂ N₃
      walk_at "MY ru0"
      rename Fr g L' _ _ => F₂; rename News g L' _ _ => N₂
      refine out_ F₂ N₂ fun F₁ N₁ => ?_
      exact hQ (c + 1) _ dk _ ([_, _] ++ (wl' ++ (il' ++ ul'))) [] _ _ (by omega) (by omega) (words_inv hV) ⟨_, wl', il', ul', rfl, hP1, wd_mono (fun _ _ => .inl) hW', hI', usr_mono (fun _ _ => .inl) hU', nd_r4 hnd' (nd_a (a := [_, _]) hnd0) hoffN⟩ (off_new (news_sub N₂ mem_r4) hrest) off_nil' F₁ (news_app (news_sub N₁ mem_r4) (hback _ _ F₂))
end
-- text Present
section
variable {w : World} {mean : ExcName → Option Value} {mg mb : Str → Option Value}
  {dp un : Nat} {gd : Option (List Code)} {cn : Str} {cs : Scope} {a : Addr} {ccd : Value} {cl : List (Str × Addr)} {outer : List Env} {A₀ : Around}
  {base h₀ : Heap} {L : Addr} {m : Str → Option Value} {s : Shared} {Q E : Value → Shared → Prop} {rest : List (Addr × Obj)}

set_option maxRecDepth 100000 in
set_option maxHeartbeats 8000000 in
theorem present_spec (F : Fr h₀ L s.heap m) (B : Below A₀ base outer h₀) (X : (hd.heap_39 w.params).In h₀) (T : Top Mine.view (looseW Mine.view []) mean mg mb h₀) (hk : cs.kind = .function)
    (hdp : dp + 4 * 1 < recursionLimit) (hun : un + 30 * 1 < cLine)
    {TI : Addr → Obj → Prop} {U : Addr} {lim prior : Int} {ever : List By} {dk : List Int} {σ : Ust} {ul : List (Addr × Obj)} (hU : Usr w TI U lim prior ever dk σ ul) (hTI : ∀ a o, TI a o → Stat h₀ rest a o) (hcur : σ.cur ∈ σ.kk)
    (N : News h₀ L s.heap (ul ++ rest)) (hoff : Off ul rest)
    (hQ : ∀ t h' tk', Fr h₀ L h' m → News h₀ L h' (ul ++ rest) → Q (.bytes (cidOf ever σ.cur) t) { s with heap := h', toks := tk' }) :
    wpAny (model PG w) (ktrTop dp un gd cn cs L a ccd cl outer) (call (.ref 165) [.ref U]) Q E s := by
  walk_at "MY fill"
  obtain ⟨dU, KN, US, TD, TR, od, okn, otd, kvs1, kvs2, uvs, n1, tvs, n2, rfl, ⟨t1, t2, t3, t4, t5, t6, t7, t8, u1, u3, u5, rfl⟩, hd1, hr1, hd2, hr2, hu, ht, lo1, lo2, l1, l2, l3, l4, l5⟩ := hU
  refine call_sub (K := hd.heap_39 w.params) (binds := [(Str.ofString "self", .ref U)]) B F X T hk N hoff (by k_is) (by k_is) (by omega) (BindsTo.of_eq rfl) (locs rfl) ?_ rfl rfl rfl (by decide)
  intro g L' h₁ FG hrest hback hlt F' N' B' X' T'
  have hTIg : ∀ a o, TI a o → g.get? a = some o := fun a o h => (hTI a o h).elim (fun e => FG.keep _ _ e) fun e => hrest _ e
  clear FG N F B X T hrest hoff hTI
  k_unmd
  k_fold
  walk_at "MY walk"
  rename TI _ _ => hti
  rename Fr g L' _ _ => F₂; rename News g L' _ _ => N₂
  have hat := ti_at F₂ hTIg hti
  refine item_tupleT ⟨_, hat, rfl, _, rfl⟩ (by decide) (by decide) rfl rfl ?_ (by with_unfolding_all rfl)
  walk_at "MY walk"
  refine out_ F₂ N₂ fun F₁ N₁ => ?_
  exact hQ _ _ _ F₁ (news_app N₁ (hback _ _ F₂))
end
-- text Stands
section
variable {w : World} {mean : ExcName → Option Value} {mg mb : Str → Option Value}
  {dp un : Nat} {gd : Option (List Code)} {cn : Str} {cs : Scope} {a : Addr} {ccd : Value} {cl : List (Str × Addr)} {outer : List Env} {A₀ : Around}
  {base h₀ : Heap} {L : Addr} {m : Str → Option Value} {s : Shared} {Q E : Value → Shared → Prop} {rest : List (Addr × Obj)}
local macro_rules | `(tactic| walk_at "subscriptTail") => `(tactic| (k_here; (with_reducible show wpAny _ _ (subscriptTail _ _ (Value.ref _) (Value.str _ _)) _ _ _); k_dflt (refine kda_item (knd := PySem.strKind _ _) (by k_asm) (by k_subL) (by k_asm) (strKind_is _ _ _ _) (by rfl) ?_)))

theorem hits_by {A : Around} {s : Shared} {ever : List By} {kb : List (Int × Value)} {ks : List Int} (hb : DictRel (ByR ever) kb ks) : ∀ {ka : List (Int × Value)}, (∀ p ∈ ka, p.1 ∈ ks ∧ ByR ever p.1 p.2) → KeqHits A s kb ka true
  | [], _ => .nil
  | (k, v) :: r, h => by
    obtain ⟨h1, t, hv⟩ := h (k, v) (.head _)
    simp only at hv h1
    subst hv
    obtain ⟨y, h2, t', rfl⟩ := hb.at h1
    exact KeqHits.hit h2 (at_by _ _ _) (hits_by hb fun p hp => h p (.tail _ hp))
theorem dict_ne_same {w : World} {A : Around} {E : Value → Shared → Prop} {s : Shared} {h₀ : Heap} {L a b : Addr} {oa ob : Obj} {ka kb : List (Int × Value)} {ks : List Int} {ever : List By} {news : List (Addr × Obj)} {Q : Value → Shared → Prop} (N : News h₀ L s.heap news)
    (ha : (a, oa) ∈ news) (hb : (b, ob) ∈ news) (da : oa.IsDictOf (PySem.intKind PG w) ka) (db : ob.IsDictOf (PySem.intKind PG w) kb) (ra : DictRel (ByR ever) ka ks) (rb : DictRel (ByR ever) kb ks) (la : (a == sysModules) = false) (lb : (b == sysModules) = false)
    (hu : A.units < cLine) (h : Q (.bool false) s) : wpAny (model PG w) A (compareOp .NotEq (.ref a) (.ref b)) Q E s := by
  refine keq_ne (r := true) la lb (Heap.dictOf_iff.mpr ⟨oa, (N _ ha).1, da⟩) (Heap.dictOf_iff.mpr ⟨ob, (N _ hb).1, db⟩) hu (fun _ => hits_by rb fun p hp => ⟨by rw [← ra.keys]; exact List.mem_map_of_mem hp, ra.vals p hp⟩) ?_
  rw [ra.len, rb.len]
  simpa using h

set_option maxRecDepth 100000 in
set_option maxHeartbeats 8000000 in
theorem stands_spec (F : Fr h₀ L s.heap m) (B : Below A₀ base outer h₀) (X : (hd.heap_39 w.params).In h₀) (T : Top Mine.view (looseW Mine.view []) mean mg mb h₀) (hk : cs.kind = .function)
    (hdp : dp + 4 * 4 < recursionLimit) (hun : un + 30 * 4 < cLine)
    {TI : Addr → Obj → Prop} {P W I U : Addr} {c : Int} {t : Nat} {x : Wst} {dk : List Int} {σ : Ust} {l : List (Addr × Obj)} (hA : Whole w TI P W I U c x dk σ l) (hV : Inv t x dk σ)
    (hTI : ∀ a o, TI a o → Stat h₀ rest a o) (ht : t ≤ 18)
    (N : News h₀ L s.heap (l ++ rest)) (hoff : Off l rest)
    (hQ : ∀ h' tk', Fr h₀ L h' m → News h₀ L h' (l ++ rest) → Q (.bool true) { s with heap := h', toks := tk' }) :
    wpAny (model PG w) (ktrTop dp un gd cn cs L a ccd cl outer) (call (.ref 237) [.ref W, .ref I, .ref U]) Q E s := by
  walk_at "MY fill"
  obtain ⟨pl, wl, il, ul, rfl, hP, hW, hI, hU, hnd⟩ := hA
  have hU0 := hU
  obtain ⟨S, ws, ns, k₀, z, p1, p2, p3, rfl, hsI, hsl, hz0, hz1, hSP⟩ := hP
  obtain ⟨dU, KN, US, TD, TR, od, okn, otd, kvs1, kvs2, uvs, u1, tvs, u2, rfl, ⟨y1, y2, y3, y4, y5, y6, y7, y8, z1, z3, z5, rfl⟩, hd1, hr1, hd2, hr2, hu, htr, lo1, lo2, l1, l2, l3, l4, l5⟩ := hU
  obtain ⟨MN, EV, SN, HS, CM, WD, MT, ow, omn, mkv, evs, n1, svs, n2, hv, n3, cv, n4, wv, n5, mv, n6, t1, t2, t3, t4, rfl, how, homn, hmkv, hevs, hsvs, hhv, hcv, hwv, hmv, loW, loM⟩ := hW
  obtain ⟨dI, D1, E1, odi, o1, kvs, ievs, i1, rfl, ⟨q1, q2, q3, q4, q5, q6, v1, v4, v5, rfl⟩, hdi1, hdb, hiev, lo, j1, j2, j3⟩ := hI
  obtain ⟨rk, r0, r1, r2, r3, r4, r5, r6, r7, r8, r9, r10, r11, r12, r13, r14, r15, r16, r17, r18, r19, _⟩ := ranks hnd 0
  clear hnd
  refine call_sub (K := hd.heap_39 w.params) (binds := [(Str.ofString "world", .ref W), (Str.ofString "issuer", .ref I), (Str.ofString "user", .ref U)]) B F X T hk N hoff (by k_is) (by k_is) (by omega) (BindsTo.of_eq rfl) (locs rfl) ?_ rfl rfl rfl (by decide)
  intro g L' h₁ FG hrest hback hlt F' N' B' X' T'
  simp only [List.cons_append, List.nil_append] at N'
  have hTIh : ∀ a o, TI a o → g.get? a = some o := fun a o h => (hTI a o h).elim (fun e => FG.keep _ _ e) fun e => hrest _ e
  replace hlt := allLt_of hlt
  dsimp only [List.cons_append, List.nil_append, AllLt] at hlt
  clear FG N F B X T hoff hTI
  have hmnl := hV.mnl
  have hnm : x.now ∈ x.mn := by rw [hV.now]; exact hV.km _ hV.cur
  obtain ⟨z1', z2', z3', z4', z5', z6', z7', z8'⟩ := hV.sizes
  k_unmd
  k_fold
  walk_at "MY ru0"
  rename News g L' _ _ => N₂
  refine dict_ne_same N₂ (a := D1) (b := MN) (by k_subL) (by k_subL) hdi1 homn hdb hmkv lo loM (by k_units) ?_
  walk_at "MY ru0"
  · exact absurd rfl ‹_ ≠ _›
  · rename IntsAre _ (srt x.hs) => hi2
    rename IntsAre _ (srt σ.kk) => hi1
    rename News g L' _ _ => N₂
    refine ke_ne_ints ⟨_, (N₂ _ (.tail _ (.head _))).1, rfl, _, rfl⟩ ⟨_, (N₂ _ (.head _)).1, rfl, _, rfl⟩ hi1 hi2 (by k_units) ?_
    rw [show (!decide (srt σ.kk = srt x.hs)) = false by rw [hV.hs, srt_srt]; simp]
    walk_at "MY ru0"
    · exact absurd hV.now.symm ‹_ ≠ _›
    · dsimp only
      rename News g L' _ _ => N₂
      have N₃ := (news_pick (a := U) N₂ (by k_subL) (news_pick (a := dU) N₂ (by k_subL) (news_pick (a := KN) N₂ (by k_subL) (news_pick (a := US) N₂ (by k_subL) (news_pick (a := TD) N₂ (by k_subL) (news_pick (a := TR) N₂ (by k_subL) (news_pick (a := W) N₂ (by k_subL) (news_pick (a := MN) N₂ (by k_subL) (news_pick (a := EV) N₂ (by k_subL) (news_pick (a := SN) N₂ (by k_subL) (news_pick (a := HS) N₂ (by k_subL) (news_pick (a := CM) N₂ (by k_subL) (news_pick (a := WD) N₂ (by k_subL) (news_pick (a := MT) N₂ (by k_subL) (news_pick (a := P) N₂ (by k_subL) (news_pick (a := S) N₂ (by k_subL) (news_pick (a := I) N₂ (by k_subL) (news_pick (a := dI) N₂ (by k_subL) (news_pick (a := D1) N₂ (by k_subL) (news_pick (a := E1) N₂ (by k_subL) (News.nil)))))))))))))))))))))
      refine present_spec (ul := [_, _, _, _, _, _]) (by k_asm) (by k_asm) (by k_asm) (by k_asm) rfl (by k_room) (by k_units) hU0 (fun a o h => .inl (hTIh a o h)) hV.cur N₃ (by walk_at "MY off") ?_
      intro tp h' tk' F' N'
      simp only [List.cons_append, List.nil_append] at N'
      clear N₂ N₃
      walk_at "MY ru0"
      · rename (_ != _) = true => hb
        rw [hV.now] at hb
        simp at hb
      · dsimp only
        rename News g L' _ _ => N₂
        refine ke_eq_ints ⟨_, (N₂ (TR, _) (by k_subL)).1, rfl, _, rfl⟩ ⟨_, (N₂ (WD, _) (by k_subL)).1, rfl, _, rfl⟩ htr hwv (by k_units) ?_
        rw [show decide (σ.tr = x.wd) = true from decide_eq_true hV.tr]
        walk_at "MY ru0"
        rename Fr g L' _ _ => F₂; rename News g L' _ _ => N₂
        refine out_ F₂ N₂ fun F₁ N₁ => ?_
        exact hQ _ _ F₁ (news_app (news_pick (a := P) N₁ (by k_subL) (news_pick (a := S) N₁ (by k_subL) (news_pick (a := W) N₁ (by k_subL) (news_pick (a := MN) N₁ (by k_subL) (news_pick (a := EV) N₁ (by k_subL) (news_pick (a := SN) N₁ (by k_subL) (news_pick (a := HS) N₁ (by k_subL) (news_pick (a := CM) N₁ (by k_subL) (news_pick (a := WD) N₁ (by k_subL) (news_pick (a := MT) N₁ (by k_subL) (news_pick (a := I) N₁ (by k_subL) (news_pick (a := dI) N₁ (by k_subL) (news_pick (a := D1) N₁ (by k_subL) (news_pick (a := E1) N₁ (by k_subL) (news_pick (a := U) N₁ (by k_subL) (news_pick (a := dU) N₁ (by k_subL) (news_pick (a := KN) N₁ (by k_subL) (news_pick (a := US) N₁ (by k_subL) (news_pick (a := TD) N₁ (by k_subL) (news_pick (a := TR) N₁ (by k_subL) (News.nil))))))))))))))))))))) (hback _ _ F₂))
      · exact absurd rfl ‹_ ≠ _›
end
-- text Law
section
local macro_rules | `(tactic| walk_at "MY ru3") => `(tactic| (repeat' (walk_at "MY si"; walk_at "MY st")))
local macro_rules | `(tactic| walk_at "eval Dict") => `(tactic| (k_here; k_dflt (first
  | refine kdn_str rfl (by k_asm) (by k_asm) (Top.nolimit (by k_asm)) rfl rfl (List.cons_ne_nil _ _) (Nat.le_of_ble_eq_true rfl) ?_
  | refine kdn_int rfl (by k_asm) (by k_asm) (Top.nolimit (by k_asm)) rfl rfl (List.cons_ne_nil _ _) (Nat.le_of_ble_eq_true rfl) ?_); intro d' h' o' F' N' l1 lo' hd'; (try k_lt l1)))

set_option maxRecDepth 100000 in
set_option maxHeartbeats 8000000 in
theorem law_holds : PySem.Challenge.rw_pf0258_01.Holds := by
  refine hd ?_
  w_strict (k_go0; (all_goals try k_fold); walk_at "MY ru0"; skip)
  rename News _ _ _ _ => N₂; rename Fr _ _ _ _ => F₂
  refine newList_K F₂ N₂ ?_
  intro P h' F' N' lP
  replace lP := allLt_of lP
  dsimp only [AllLt] at lP
  clear F₂ N₂
  rename News _ _ _ _ => N₂
  have N₃ := news_pick N₂ (.head _) (news_pick N₂ (.tail _ (.tail _ (.head _))) News.nil)
  clear N₂
  refine pn_use (rest := []) (by assumption) (by rw [List.length_take]; omega) (fmod_lo _ (by decide)) (fmod_hi _ (by decide)) (by omega) N₃ fun pl hP ha N' => ?_
  clear N₃
  walk_at "MY ru0"
  rename News _ _ _ _ => N₂
  refine pick_spec (by k_asm) (by k_asm) (by k_asm) (by k_asm) rfl (by k_room) (by k_units) hP (by omega) (by omega) (by omega) N₂ (offNil _) ?_
  intro k tk pl' h' tk' hk0 hk1 hP' ha' F' N'
  clear N₂
  have hP1 := hP'
  obtain ⟨S, ws, ns, k₀, z, p1, p2, p3, rfl, hsI, hsl, hz0, hz1, hSP⟩ := hP'
  simp only [List.append_nil] at N'
  walk_at "MY ru0"
  walk_at "MY ru3"
  rename News _ _ _ _ => N₂; rename Fr _ _ _ _ => F₂
  rename Obj.IsDictOf (PySem.strKind _ _) _ _ => how
  refine start_of N₂ hP1 ⟨_, _, _, _, _, _, _, _, _, rfl⟩ ⟨_, _, _, _, _, _, _, _, _, _, _, rfl⟩ how (by assumption) (by assumption) (by assumption) (by assumption) (by assumption) (by assumption) (by assumption) (by assumption) (by assumption)
    ⟨by omega, by omega, by omega, by omega, by omega, by omega, by omega, by omega, by omega, by omega, by omega, by omega, by omega, by omega, by omega, by omega, by omega, by omega, by omega, by omega, by omega, trivial⟩ (by omega) (by omega) ?_
  intro TI x dk σ l tups hA hV hTI hoff Nl Nt
  clear N₂
  refine iter_rangeJ (n := 18) (LoopJ _ _ _ _ _) rfl (by assumption) (by decide) (by decide) F₂ (news_app Nl Nt) (loopJ_mk hA hV hTI hoff (by omega) (by omega)) ?_ ?_
  · clear hA hV hTI hoff Nl Nt F₂
    clear TI x dk σ l tups
    rintro i J it tt nx h tk hi ho ⟨TI, c, x, dk, σ, l, tups, rfl, hA, hV, hTI, hoff, hc0, hc1⟩ F' N'
    walk_at "MY ru0"
    rename News _ _ _ _ => N₂
    refine deed_spec (rest := tups ++ [(J, it)]) (by k_asm) (by k_asm) (by k_asm) (by k_asm) rfl (by k_room) (by k_units) hA hV (fun a o h => .inr (List.mem_append_left _ (hTI a o h))) (by omega) hc0 (by omega) (news_sub N₂ fun p hp => ?_) (off_app hoff fun p hp q hq => ?_) ?_
    · simp only [List.mem_append, List.mem_cons, List.not_mem_nil, or_false] at hp ⊢
      rcases hp with h | h | h <;> simp [h]
    · rw [List.mem_singleton.mp hq]
      exact (ho p (List.mem_append_left _ hp)).symm
    intro c' x' dk' σ' l' ext h' tk' hc1' hc2' hV' hA' hoff' hoffe F' N'
    clear N₂
    walk_at "MY ru0"
    rename News _ _ _ _ => N₂
    refine stands_spec (rest := ext ++ (tups ++ [(J, it)])) (by k_asm) (by k_asm) (by k_asm) (by k_asm) rfl (by k_room) (by k_units) hA' hV' ?_ (by omega) N₂ hoff' ?_
    · intro a o h
      rcases h with h | h
      · exact .inr (List.mem_append_right _ (List.mem_append_left _ (hTI a o h)))
      · exact .inr (List.mem_append_left _ h)
    intro h' tk' F' N'
    clear N₂
    walk_at "MY ru0"
    rename News _ _ _ _ => N₂; rename Fr _ _ _ _ => F₂
    refine turnR_next (nx := l' ++ (ext ++ tups)) F₂ (news_sub N₂ fun p hp => ?_) ?_ (fun p hp => ?_) (loopJ_mk hA' hV' ?_ ?_ (by omega) (by omega))
    · simp only [List.mem_append, List.mem_cons, List.not_mem_nil, or_false] at hp ⊢
      rcases hp with h | h | h | h <;> simp [h]
    · intro y hy
      simp only [if_neg hy]
    · simp only [List.mem_append] at hp
      rcases hp with h | h | h
      · exact (hoff' p h (J, it) (List.mem_append_right _ (List.mem_append_right _ (.head _)))).symm
      · exact (hoffe p h (J, it) (List.mem_append_right _ (.head _))).symm
      · exact ho p (List.mem_append_right _ h)
    · intro a o h
      rcases h with h | h
      · exact List.mem_append_right _ (hTI a o h)
      · exact List.mem_append_left _ h
    · intro p hp q hq
      refine hoff' p hp q ?_
      simp only [List.mem_append] at hq ⊢
      rcases hq with h | h <;> simp [h]
  · rintro v nx h tk ⟨TI, c, x, dk, σ, l, tups, rfl, -, -, -, -, -, -⟩ F' N'
    walk_at "MY ru0"
end
end Mine
theorem PySem.Challenge.cw_pf0258_01_holds : PySem.Challenge.rw_pf0258_01.Holds := by
  exact Mine.law_holds
